import PyProof.Rows.All
import Wide.All
import OpenK.AllK
import Wide.FinOn
import HandS.ForMost
import HandS.Exc
import HandS.ExcOwn
import HandS.WordsExc
import HandS.Lambda
import HandS.Wide
import HandS.ExcCtx
import HandS.TupAny
import HandS.TupMul
import HandS.Style
import HandS.IsInst
import HandS.Walk
import HandS.More
import HandS.Zip
import KE.GoesMore
import KE.GoesEnum
import HandS.Dict
import HandS.Ends
import HandS.HotCalls
import HandS.ExcIs
import HandS.EndTab
import HandS.SortInts
import HandS.Conv
import HandS.Iter
import KE.DataMinMax
import KE.SortData
import HandS.SetKeys
import HandS.DictComp
import HandS.Deep
import KE.KIndexOf
import PySem.Challenge.RW_knockback_k12_whole_shares_in_small_fiel
set_option Elab.async false
set_option linter.all false
set_option maxRecDepth 100000
set_option maxHeartbeats 4000000
set_option autoImplicit false
/-! Data, slots, states; the judgements whose readings speak of data alone -/
namespace DL
open PySem PySem.Spec PyProof.Rows L2

/-! ### data -/
inductive D where
  | non
  | bl (b : Bool)
  | int (i : Int)
  | str (x : Str)
  | tup (xs : List D)
  | lst (xs : List D)
  /-- a tuple whose object is known (true: its methods may be called), or that may be a dict's key (false) -/
  | tux (x : Bool) (xs : List D)
  /-- a dict that is not changed any more -/
  | dic (ks : List (List Key)) (vs : List D)
  | dik (ks : List Key) (vs : List D)
  /-- an instance of the class at C -/
  | obj (C : Addr) (fs : List Str) (vs : List D)

mutual
def D.py : D → PyData
  | .non => .none
  | .bl b => .bool b
  | .int i => .int i
  | .str x => .str x
  | .tup xs => .tuple (D.pys xs)
  | .lst xs => .list (D.pys xs)
  | .tux _ xs => .tuple (D.pys xs)
  | .dic _ _ => .dict []
  | .dik _ _ => .dict []
  | .obj _ _ _ => .dict []
def D.pys : List D → List PyData
  | [] => []
  | x :: xs => x.py :: D.pys xs
end

/-- tracked things stay, tables aside -/
def G (F F' : Hp) : Prop := ∀ a o, F a = some o → (∀ ps, o ≠ .tbl ps) → F' a = some o
theorem G.refl (F : Hp) : G F F := fun _ _ h _ => h
theorem G.trans {F F1 F2 : Hp} (a : G F F1) (b : G F1 F2) : G F F2 := fun x o h n => b x o (a x o h n) n
theorem G.of {F F' : Hp} (h : ∀ a o, F a = some o → F' a = some o) : G F F' := fun a o e _ => h a o e
theorem G.new {F : Hp} {p : Addr} {o : HO} (h : F p = none) : G F (upd F p o) := .of fun a u e => by
  rw [upd_ne (ne_of_none e h)]
  exact e

section
variable {K : PySem.W.Frag} {F F' : Hp}
theorem G.rd (g : G F F') {a : Addr} {u : HO} (n : ∀ ps, u ≠ .tbl ps) (h : Rd F a u) : Rd F' a u := by
  rcases h with h | ⟨o, h⟩
  · exact .inl (g a _ h n)
  · exact .inr ⟨o, g a _ h (fun _ z => by cases z)⟩
theorem G.l (g : G F F') {a : Addr} {xs : List V} (h : SqL K F a xs) : SqL K F' a xs := by
  rcases h with h | h
  · exact .inl (g.rd (fun _ z => by cases z) h)
  · exact .inr h
theorem G.t (g : G F F') {a : Addr} {xs : List V} (h : SqT K F a xs) : SqT K F' a xs := by
  rcases h with h | h
  · exact .inl (g.rd (fun _ z => by cases z) h)
  · exact .inr h
end

/-- an own class, for isinstance -/
structure ClsI (K : PySem.W.Frag) (C : Addr) : Prop where
  cl : Cls K C
  ha : PySem.W.findIn K (.ref C) "__class__" = some (some (.builtin "object.__class__"))
  hn : PySem.W.specialIn K (.builtin "object.__class__") "__get__" = some (some (.builtin "getset_descriptor.__get__"))
  htk : PySem.W.takesIn K (.builtin "object.__class__") = some true
  hm : PySem.W.mroIn K C (.type "object") = some true
  no : ∀ t ∈ ["int", "bool", "tuple", "list", "str"], PySem.W.kitOne K (.ref C) (.type t) = some false
/-! ### what represents what -/
mutual
inductive Rp (K : PySem.W.Frag) (F : Hp) : V → D → Prop
  | non : Rp K F .non .non
  | bl (b : Bool) : Rp K F (.bl b) (.bl b)
  | int (i : Int) : Rp K F (.int i) (.int i)
  | str (x : Str) : Rp K F (.str x) (.str x)
  | tup {a : Addr} {vs : List V} {xs : List D} : Rd F a (.tup vs) → RpL K F vs xs → Rp K F (.ref a) (.tup xs)
  | lst {a : Addr} {vs : List V} {xs : List D} : F a = some (.lst vs) → RpL K F vs xs → Rp K F (.ref a) (.lst xs)
  | tux {a : Addr} {ob : Obj} {vs : List V} {xs : List D} : F a = some (.frz ob (.tup vs)) → ob.cls = .type "tuple" → ob.dict = none → RpL K F vs xs → Rp K F (.ref a) (.tux true xs)
  | tuk {a : Addr} {vs : List V} {xs : List D} : F a = some (.tup vs) → RpL K F vs xs → Rp K F (.ref a) (.tux false xs)
  | dic {a : Addr} {ob : Obj} {kvs : List (List Key × V)} {ks : List (List Key)} {xs : List D} : F a = some (.frz ob (.dT kvs)) → kvs.map (·.1) = ks → RpL K F (kvs.map (·.2)) xs → Rp K F (.ref a) (.dic ks xs)
  | dik {a : Addr} {ob : Obj} {kvs : List (Key × V)} {ks : List Key} {xs : List D} : F a = some (.frz ob (.dK kvs)) → kvs.map (·.1) = ks → RpL K F (kvs.map (·.2)) xs → Rp K F (.ref a) (.dik ks xs)
  | obj {a C dx : Addr} {kvs : List (Str × V)} {fs : List Str} {xs : List D} : F a = some (.ins C dx kvs) → F dx = some (.own a) → kvs.map (·.1) = fs → ClsI K C → RpL K F (kvs.map (·.2)) xs → Rp K F (.ref a) (.obj C fs xs)
inductive RpL (K : PySem.W.Frag) (F : Hp) : List V → List D → Prop
  | nil : RpL K F [] []
  | cons {v : V} {vs : List V} {d : D} {ds : List D} : Rp K F v d → RpL K F vs ds → RpL K F (v :: vs) (d :: ds)
end
section
variable {K : PySem.W.Frag} {F F' : Hp}
mutual
theorem Rp.mono (g : G F F') : ∀ (d : D) (v : V), Rp K F v d → Rp K F' v d
  | .non, _, h => by cases h; exact .non
  | .bl b, _, h => by cases h; exact .bl b
  | .int b, _, h => by cases h; exact .int b
  | .str b, _, h => by cases h; exact .str b
  | .tup ds, _, h => by
    cases h with
    | tup hs ha => exact .tup (g.rd (fun _ z => by cases z) hs) (RpL.mono g ds _ ha)
  | .lst ds, _, h => by
    cases h with
    | lst hs ha => exact .lst (g _ _ hs (fun _ z => by cases z)) (RpL.mono g ds _ ha)
  | .tux true ds, _, h => by
    cases h with
    | tux hs h1 h2 ha => exact .tux (g _ _ hs (fun _ z => by cases z)) h1 h2 (RpL.mono g ds _ ha)
  | .tux false ds, _, h => by
    cases h with
    | tuk hs ha => exact .tuk (g _ _ hs (fun _ z => by cases z)) (RpL.mono g ds _ ha)
  | .dic _ ds, _, h => by
    cases h with
    | dic hs h1 ha => exact .dic (g _ _ hs (fun _ z => by cases z)) h1 (RpL.mono g ds _ ha)
  | .dik _ ds, _, h => by
    cases h with
    | dik hs h1 ha => exact .dik (g _ _ hs (fun _ z => by cases z)) h1 (RpL.mono g ds _ ha)
  | .obj _ _ ds, _, h => by
    cases h with
    | obj hs h1 h2 h3 ha => exact .obj (g _ _ hs (fun _ z => by cases z)) (g _ _ h1 (fun _ z => by cases z)) h2 h3 (RpL.mono g ds _ ha)
theorem RpL.mono (g : G F F') : ∀ (ds : List D) (vs : List V), RpL K F vs ds → RpL K F' vs ds
  | [], _, h => by cases h; exact .nil
  | d :: ds, _, h => by
    cases h with
    | cons h1 h2 => exact .cons (Rp.mono g d _ h1) (RpL.mono g ds _ h2)
end
mutual
theorem Rp.dp : ∀ (d : D) (v : V), d.py.canLay0 = true → Rp K F v d → Dp K F v d.py
  | .non, _, _, h => by cases h; exact .non
  | .bl b, _, _, h => by cases h; exact .bl b
  | .int b, _, _, h => by cases h; exact .int b
  | .str b, _, _, h => by cases h; exact .str b
  | .tup ds, _, c, h => by
    cases h with
    | tup hs ha => exact .tup (.inl hs) (RpL.dp ds _ (by simpa [D.py, PyData.canLay0] using c) ha)
  | .lst ds, _, c, h => by
    cases h with
    | lst hs ha => exact .lst (SqL.of hs) (RpL.dp ds _ (by simpa [D.py, PyData.canLay0] using c) ha)
  | .tux true ds, _, c, h => by
    cases h with
    | tux hs _ _ ha => exact .tup (.inl (.inr ⟨_, hs⟩)) (RpL.dp ds _ (by simpa [D.py, PyData.canLay0] using c) ha)
  | .tux false ds, _, c, h => by
    cases h with
    | tuk hs ha => exact .tup (SqT.of hs) (RpL.dp ds _ (by simpa [D.py, PyData.canLay0] using c) ha)
  | .dic _ _, _, c, _ => by simp [D.py, PyData.canLay0] at c
  | .dik _ _, _, c, _ => by simp [D.py, PyData.canLay0] at c
  | .obj _ _ _, _, c, _ => by simp [D.py, PyData.canLay0] at c
theorem RpL.dp : ∀ (ds : List D) (vs : List V), PyData.canLayAll0 (D.pys ds) = true → RpL K F vs ds → DpAll K F vs (D.pys ds)
  | [], _, _, h => by cases h; exact .nil
  | d :: ds, _, c, h => by
    have c' : d.py.canLay0 = true ∧ PyData.canLayAll0 (D.pys ds) = true := by simpa [D.pys, PyData.canLayAll0] using c
    cases h with
    | cons h1 h2 => exact .cons (Rp.dp d _ c'.1 h1) (RpL.dp ds _ c'.2 h2)
end
theorem RpL.length : ∀ {vs : List V} {ds : List D}, RpL K F vs ds → vs.length = ds.length
  | _, _, .nil => rfl
  | _, _, .cons _ t => congrArg (· + 1) (RpL.length t)
theorem RpL.get : ∀ {vs : List V} {ds : List D} {i : Nat} {d : D}, RpL K F vs ds → ds[i]? = some d → ∃ v, vs[i]? = some v ∧ Rp K F v d
  | _, _, _, _, .nil, e => by simp at e
  | _, _, 0, _, .cons r _, e => by simp at e; subst e; exact ⟨_, rfl, r⟩
  | _, _, i + 1, _, .cons _ t, e => by
    obtain ⟨v, h1, h2⟩ := RpL.get (i := i) t (by simpa using e)
    exact ⟨v, by simpa using h1, h2⟩
theorem RpL.getV : ∀ {vs : List V} {ds : List D} {i : Nat} {v : V}, RpL K F vs ds → vs[i]? = some v → ∃ d, ds[i]? = some d ∧ Rp K F v d
  | _, _, _, _, .nil, e => by simp at e
  | _, _, 0, _, .cons r _, e => by simp at e; subst e; exact ⟨_, rfl, r⟩
  | _, _, i + 1, _, .cons _ t, e => by
    obtain ⟨v, h1, h2⟩ := RpL.getV (i := i) t (by simpa using e)
    exact ⟨v, by simpa using h1, h2⟩
theorem RpL.append : ∀ {vs ws : List V} {ds es : List D}, RpL K F vs ds → RpL K F ws es → RpL K F (vs ++ ws) (ds ++ es)
  | _, _, _, _, .nil, s => s
  | _, _, _, _, .cons r t, s => .cons r (RpL.append t s)
theorem RpL.take : ∀ {vs : List V} {ds : List D} (n : Nat), RpL K F vs ds → RpL K F (vs.take n) (ds.take n)
  | _, _, 0, _ => by simpa using RpL.nil
  | _, _, _ + 1, .nil => by simpa using RpL.nil
  | _, _, n + 1, .cons r t => by simpa using RpL.cons r (RpL.take n t)
theorem RpL.drop : ∀ {vs : List V} {ds : List D} (n : Nat), RpL K F vs ds → RpL K F (vs.drop n) (ds.drop n)
  | _, _, 0, r => by simpa using r
  | _, _, _ + 1, .nil => by simpa using RpL.nil
  | _, _, n + 1, .cons _ t => by simpa using RpL.drop n t
theorem RpL.set {v : V} {d : D} (r : Rp K F v d) : ∀ {vs : List V} {ds : List D} (i : Nat), RpL K F vs ds → RpL K F (vs.set i v) (ds.set i d)
  | _, _, _, .nil => by simpa using RpL.nil
  | _, _, 0, .cons _ t => .cons r t
  | _, _, i + 1, .cons q t => .cons q (RpL.set r i t)
theorem RpL.one {v : V} {d : D} (r : Rp K F v d) : RpL K F [v] [d] := .cons r .nil
theorem RpL.reverse : ∀ {vs : List V} {ds : List D}, RpL K F vs ds → RpL K F vs.reverse ds.reverse
  | _, _, .nil => .nil
  | _, _, .cons r t => by
    rw [List.reverse_cons, List.reverse_cons]
    exact RpL.append (RpL.reverse t) (RpL.one r)
theorem RpL.eraseIdx : ∀ {vs : List V} {ds : List D} (i : Nat), RpL K F vs ds → RpL K F (vs.eraseIdx i) (ds.eraseIdx i)
  | _, _, _, .nil => by simpa using RpL.nil
  | _, _, 0, .cons _ t => t
  | _, _, i + 1, .cons q t => .cons q (RpL.eraseIdx i t)
theorem RpL.rep {vs : List V} {ds : List D} (r : RpL K F vs ds) : ∀ n : Nat, RpL K F (List.replicate n vs).flatten (List.replicate n ds).flatten
  | 0 => .nil
  | n + 1 => by
    rw [List.replicate_succ, List.replicate_succ, List.flatten_cons, List.flatten_cons]
    exact r.append (RpL.rep r n)
end

/-! ### slots and states -/
/-- a bag of draws: what is left of the cell, the seed, the turn (at most n) -/
def BagOk (n : Nat) (a b c : Int) : Prop := 0 ≤ a ∧ 0 ≤ b ∧ b < 2305843009213693951 ∧ 0 ≤ c ∧ c ≤ n
inductive Sl where
  | no
  | sh (d : D)
  | ow (fr : Bool) (xs : List D)
  | bg (fr : Bool) (n : Nat)
  | dt (fr : Bool) (kvs : List (List Key × D))
  | dk (fr : Bool) (kvs : List (Key × D))
  | scr (ns : List Int)
def Sl.owned : Sl → Bool
  | .ow _ _ => true
  | .bg _ _ => true
  | .dt _ _ => true
  | .dk _ _ => true
  | _ => false
def Sl.fresh : Sl → Bool
  | .ow f _ => f
  | .bg f _ => f
  | .dt f _ => f
  | .dk f _ => f
  | _ => false
def Sl.fr : Bool → Sl → Sl
  | f, .ow _ x => .ow f x
  | f, .bg _ x => .bg f x
  | f, .dt _ x => .dt f x
  | f, .dk _ x => .dk f x
  | _, s => s
/-- a dict's values -/
def KvR {κ : Type} (K : PySem.W.Frag) (F : Hp) (kvs' : List (κ × V)) (kvs : List (κ × D)) : Prop := kvs'.map (·.1) = kvs.map (·.1) ∧ RpL K F (kvs'.map (·.2)) (kvs.map (·.2))
/-- the slot's content o is as s says -/
def slR (K : PySem.W.Frag) (F H : Hp) : Sl → Option (Option V) → Prop
  | .no, _ => True
  | .sh d, o => ∃ v, o = some (some v) ∧ Rp K F v d
  | .ow _ xs, o => ∃ p vs, o = some (some (.ref p)) ∧ F p = none ∧ H p = some (.lst vs) ∧ RpL K F vs xs
  | .bg _ n, o => ∃ p a b c, o = some (some (.ref p)) ∧ F p = none ∧ H p = some (.lst [.int a, .int b, .int c]) ∧ BagOk n a b c
  | .dt _ kvs, o => ∃ p kvs', o = some (some (.ref p)) ∧ F p = none ∧ H p = some (.dT kvs') ∧ KvR K F kvs' kvs
  | .dk _ kvs, o => ∃ p kvs', o = some (some (.ref p)) ∧ F p = none ∧ H p = some (.dK kvs') ∧ KvR K F kvs' kvs
  | .scr ns, o => ∃ p, o = some (some (.ref p)) ∧ SqL K F p (ns.map V.int)
structure Sx where
  F : Hp
  ρ : List Sl
  σ : L2.St
  H : Hp
def Own (S : Sx) (a : Addr) : Prop := ∃ (i : Nat) (s : Sl), S.ρ[i]? = some s ∧ s.owned = true ∧ S.σ[i]? = some (some (.ref a))
def Ofr (S : Sx) (a : Addr) : Prop := ∃ (i : Nat) (s : Sl), S.ρ[i]? = some s ∧ s.owned = true ∧ s.fresh = true ∧ S.σ[i]? = some (some (.ref a))
theorem Ofr.own {S : Sx} {a : Addr} (h : Ofr S a) : Own S a := let ⟨i, s, h1, h2, _, h3⟩ := h; ⟨i, s, h1, h2, h3⟩
abbrev Tz := List (Addr × Str)
structure Ok (K : PySem.W.Frag) (T : Tz) (S : Sx) : Prop where
  sub : ∀ a o, S.F a = some o → S.H a = some o
  tab : LamX.Tabs T S.H
  len : S.ρ.length = S.σ.length
  slot : ∀ (i : Nat) (s : Sl), S.ρ[i]? = some s → slR K S.F S.H s S.σ[i]?
  dis : ∀ (i j : Nat) (s t : Sl) (a : Addr), S.ρ[i]? = some s → S.ρ[j]? = some t → s.owned = true → t.owned = true → S.σ[i]? = some (some (.ref a)) → S.σ[j]? = some (some (.ref a)) → i = j
structure Go (S S' : Sx) : Prop where
  g : G S.F S'.F
  kp : ∀ a o, S.H a = some o → (∀ ps, o ≠ .tbl ps) → ¬ Own S a → S'.H a = some o
  nw : ∀ a, S'.F a ≠ none → S.F a ≠ none ∨ S.H a = none ∨ Ofr S a
  ow : ∀ a, Own S' a → Own S a ∨ S.H a = none
  fr : ∀ a, Ofr S' a → Ofr S a ∨ S.H a = none
  dom : ∀ a, S'.H a = none → S.H a = none
  pin : ∀ (i : Nat) (s : Sl), S'.ρ[i]? = some s → s.owned = true → s.fresh = false → S'.σ[i]? = S.σ[i]? ∧ ∃ t, S.ρ[i]? = some t ∧ t.owned = true ∧ t.fresh = false
theorem Go.refl (S : Sx) : Go S S := ⟨G.refl _, fun _ _ h _ _ => h, fun _ h => .inl h, fun _ h => .inl h, fun _ h => .inl h, fun _ h => h, fun i s h1 h2 h3 => ⟨rfl, s, h1, h2, h3⟩⟩
theorem Go.trans {a b c : Sx} (x : Go a b) (y : Go b c) : Go a c where
  g := x.g.trans y.g
  kp := fun p o h n no => y.kp p o (x.kp p o h n no) n fun z => (x.ow p z).elim no fun q => by rw [q] at h; cases h
  nw := fun p h => (y.nw p h).elim (fun z => x.nw p z) fun z => z.elim (fun q => .inr (.inl (x.dom p q))) fun q => (x.fr p q).elim (fun r => .inr (.inr r)) fun r => .inr (.inl r)
  ow := fun p h => (y.ow p h).elim (fun z => x.ow p z) fun z => .inr (x.dom p z)
  fr := fun p h => (y.fr p h).elim (fun z => x.fr p z) fun z => .inr (x.dom p z)
  dom := fun p h => x.dom p (y.dom p h)
  pin := fun i s h1 h2 h3 => by
    obtain ⟨e1, t, t1, t2, t3⟩ := y.pin i s h1 h2 h3
    obtain ⟨e2, u⟩ := x.pin i t t1 t2 t3
    exact ⟨e1.trans e2, u⟩
/-- a slot's content at its address -/
def cont (K : PySem.W.Frag) (F : Hp) : Sl → HO → Prop
  | .ow _ xs, o => ∃ vs, o = .lst vs ∧ RpL K F vs xs
  | .bg _ n, o => ∃ a b c, o = .lst [.int a, .int b, .int c] ∧ BagOk n a b c
  | .dt _ kvs, o => ∃ kvs', o = .dT kvs' ∧ KvR K F kvs' kvs
  | .dk _ kvs, o => ∃ kvs', o = .dK kvs' ∧ KvR K F kvs' kvs
  | _, _ => False
section
variable {K : PySem.W.Frag} {F F' H H' : Hp} {s : Sl} {o : Option (Option V)}
theorem KvR.mono {κ : Type} {x : List (κ × V)} {y : List (κ × D)} (g : G F F') (h : KvR K F x y) : KvR K F' x y := ⟨h.1, RpL.mono g _ _ h.2⟩
theorem cont.mono (g : G F F') {u : HO} (h : cont K F s u) : cont K F' s u := by
  cases s with
  | ow f xs => obtain ⟨vs, e, r⟩ := h; exact ⟨vs, e, RpL.mono g _ _ r⟩
  | bg f n => exact h
  | dt f xs => obtain ⟨vs, e, r⟩ := h; exact ⟨vs, e, r.mono g⟩
  | dk f xs => obtain ⟨vs, e, r⟩ := h; exact ⟨vs, e, r.mono g⟩
  | _ => exact h.elim
theorem slR.at (h : slR K F H s o) (w : s.owned = true) : ∃ p u, o = some (some (.ref p)) ∧ F p = none ∧ H p = some u ∧ cont K F s u := by
  cases s with
  | ow f xs => obtain ⟨p, vs, h1, h2, h3, h4⟩ := h; exact ⟨p, _, h1, h2, h3, vs, rfl, h4⟩
  | bg f n => obtain ⟨p, a, b, c, h1, h2, h3, h4⟩ := h; exact ⟨p, _, h1, h2, h3, a, b, c, rfl, h4⟩
  | dt f xs => obtain ⟨p, vs, h1, h2, h3, h4⟩ := h; exact ⟨p, _, h1, h2, h3, vs, rfl, h4⟩
  | dk f xs => obtain ⟨p, vs, h1, h2, h3, h4⟩ := h; exact ⟨p, _, h1, h2, h3, vs, rfl, h4⟩
  | _ => cases w
theorem slR.of {p : Addr} {u : HO} (h1 : o = some (some (.ref p))) (h2 : F p = none) (h3 : H p = some u) (c : cont K F s u) : slR K F H s o := by
  cases s with
  | ow f xs => obtain ⟨vs, rfl, r⟩ := c; exact ⟨p, vs, h1, h2, h3, r⟩
  | bg f n => obtain ⟨a, b, c, rfl, r⟩ := c; exact ⟨p, a, b, c, h1, h2, h3, r⟩
  | dt f xs => obtain ⟨vs, rfl, r⟩ := c; exact ⟨p, vs, h1, h2, h3, r⟩
  | dk f xs => obtain ⟨vs, rfl, r⟩ := c; exact ⟨p, vs, h1, h2, h3, r⟩
  | _ => exact c.elim
theorem slR.val (h : slR K F H s o) (w : s.owned = false) (g : G F F') : slR K F' H' s o := by
  cases s with
  | no => trivial
  | sh d => obtain ⟨v, e, r⟩ := h; exact ⟨v, e, Rp.mono g _ _ r⟩
  | scr ns => obtain ⟨v, e, r⟩ := h; exact ⟨v, e, g.l r⟩
  | _ => cases w
theorem cont_tbl {u : HO} (c : cont K F s u) : ∀ ps, u ≠ .tbl ps := by
  cases s with
  | ow f xs => obtain ⟨vs, rfl, r⟩ := c; intro ps z; cases z
  | bg f n => obtain ⟨a, b, c, rfl, r⟩ := c; intro ps z; cases z
  | dt f xs => obtain ⟨vs, rfl, r⟩ := c; intro ps z; cases z
  | dk f xs => obtain ⟨vs, rfl, r⟩ := c; intro ps z; cases z
  | _ => exact c.elim
theorem cont_fr {u : HO} {f : Bool} (c : cont K F s u) : cont K F (s.fr f) u := by
  cases s with
  | _ => first | exact c | exact c.elim
theorem owned_fr {f : Bool} : (s.fr f).owned = s.owned := by cases s <;> rfl
end

/-! ### results -/
theorem fresh_fr {b : Bool} (s : Sl) (h : s.owned = true) : (s.fr b).fresh = b := by cases s <;> first | rfl | cases h
/-- data, an owned slot, a new list, any other new thing -/
inductive Rv where
  | val (d : D)
  | own (i : Nat)
  | new (xs : List D)
  | nob (s : Sl)
/-- a settled result (no list of its own): its data, or an owned slot -/
def rvR (K : PySem.W.Frag) (Hs : Hp) (S : Sx) : Rv → V → Prop
  | .val d, v => Rp K S.F v d
  | .own i, v => S.σ[i]? = some (some v)
  | .new xs, v => ∃ p vs, v = .ref p ∧ Hs p = none ∧ S.F p = none ∧ S.H p = some (.lst vs) ∧ RpL K S.F vs xs ∧ ¬ Own S p
  | .nob s, v => ∃ p u, v = .ref p ∧ Hs p = none ∧ S.F p = none ∧ S.H p = some u ∧ cont K S.F s u ∧ s.owned = true ∧ ¬ Own S p
section
variable {K : PySem.W.Frag} {T : Tz} {Hs : Hp} {S0 S S' : Sx} {r : Rv} {v : V}
theorem rvR.go (h : rvR K Hs S r v) (g : Go S S') (e : S'.σ = S.σ) : rvR K Hs S' r v := by
  cases r with
  | val d => exact Rp.mono g.g _ _ h
  | own i => show S'.σ[i]? = some (some v); rw [e]; exact h
  | new xs =>
    obtain ⟨p, vs, h1, h2, h3, h4, h5, h6⟩ := h
    refine ⟨p, vs, h1, h2, ?_, g.kp p _ h4 (fun _ z => by cases z) h6, RpL.mono g.g _ _ h5, fun z => (g.ow p z).elim h6 fun q => by rw [q] at h4; cases h4⟩
    cases q : S'.F p with
    | none => rfl
    | some u =>
      rcases g.nw p (by rw [q]; intro z; cases z) with z | z | z
      · exact absurd h3 z
      · rw [z] at h4; cases h4
      · exact absurd z.own h6
  | nob s =>
    obtain ⟨p, u, h1, h2, h3, h4, h5, h7, h6⟩ := h
    refine ⟨p, u, h1, h2, ?_, g.kp p _ h4 (cont_tbl h5) h6, h5.mono g.g, h7, fun z => (g.ow p z).elim h6 fun q => by rw [q] at h4; cases h4⟩
    cases q : S'.F p with
    | none => rfl
    | some u =>
      rcases g.nw p (by rw [q]; intro z; cases z) with z | z | z
      · exact absurd h3 z
      · rw [z] at h4; cases h4
      · exact absurd z.own h6
theorem rvR.start {Hs' : Hp} (h : rvR K Hs S r v) (d : ∀ a, Hs a = none → Hs' a = none) : rvR K Hs' S r v := by
  cases r with
  | val d => exact h
  | own i => exact h
  | new xs => obtain ⟨p, vs, h1, h2, h3⟩ := h; exact ⟨p, vs, h1, d p h2, h3⟩
  | nob s => obtain ⟨p, u, h1, h2, h3⟩ := h; exact ⟨p, u, h1, d p h2, h3⟩
def rdo : Option Sl → Option D
  | some (.ow _ xs) => some (.lst xs)
  | some (.sh d) => some d
  | _ => none
theorem rdo_some {o : Option Sl} {d : D} (h : rdo o = some d) : (∃ f xs, o = some (.ow f xs) ∧ d = .lst xs) ∨ o = some (.sh d) := by
  cases o with
  | none => cases h
  | some s => cases s <;> first | (cases h; exact .inl ⟨_, _, rfl, rfl⟩) | (cases h; exact .inr rfl) | cases h
/-- what is read of a result -/
def rd (ρ : List Sl) : Rv → Option D
  | .val d => some d
  | .new xs => some (.lst xs)
  | .own i => rdo ρ[i]?
  | .nob _ => none
/-- .. as the heap has it: a list's (a tuple's) items are data of F -/
def Shl (K : PySem.W.Frag) (S : Sx) (v : V) (d : D) : Prop := Rp K S.F v d ∨ ∃ p vs xs, v = .ref p ∧ d = .lst xs ∧ S.H p = some (.lst vs) ∧ RpL K S.F vs xs
theorem Ok.gH (ok : Ok K T S) : G S.F S.H := .of ok.sub
theorem Ok.rd (ok : Ok K T S) {d : D} (h : rvR K Hs S r v) (e : rd S.ρ r = some d) : Shl K S v d := by
  cases r with
  | nob s => cases e
  | val d' => cases e; exact .inl h
  | new xs =>
    cases e
    obtain ⟨p, vs, h1, h2, h3, h4, h5, h6⟩ := h
    exact .inr ⟨p, vs, xs, h1, rfl, h4, h5⟩
  | own i =>
    have hs : S.σ[i]? = some (some v) := h
    rcases rdo_some (show rdo S.ρ[i]? = some d from e) with ⟨f, xs, q, e⟩ | q
    · cases e
      obtain ⟨p, vs, h1, h2, h3, h4⟩ := ok.slot i _ q
      rw [hs] at h1
      exact .inr ⟨p, vs, xs, Option.some.inj (Option.some.inj h1), rfl, h3, h4⟩
    · obtain ⟨v', h1, h2⟩ := ok.slot i _ q
      rw [hs] at h1
      rw [Option.some.inj (Option.some.inj h1)]
      exact .inl h2
theorem Shl.rp {d : D} (h : Shl K S v d) (ok : Ok K T S) : Rp K S.H v d := by
  rcases h with h | ⟨p, vs, xs, h1, h2, h3, h4⟩
  · exact Rp.mono ok.gH _ _ h
  · rw [h1, h2]; exact .lst h3 (RpL.mono ok.gH _ _ h4)
theorem Shl.lst {xs : List D} (h : Shl K S v (.lst xs)) (ok : Ok K T S) : ∃ a vs, v = .ref a ∧ S.H a = some (.lst vs) ∧ RpL K S.F vs xs := by
  rcases h with h | ⟨p, vs, ys, h1, h2, h3, h4⟩
  · cases h with
    | lst hs ha => exact ⟨_, _, rfl, ok.sub _ _ hs, ha⟩
  · cases h2; exact ⟨p, vs, h1, h3, h4⟩
theorem Rd.sub {F H : Hp} {a : Addr} {u : HO} (h : Rd F a u) (g : ∀ a o, F a = some o → H a = some o) : Rd H a u := h.elim (fun h => .inl (g _ _ h)) fun ⟨o, h⟩ => .inr ⟨o, g _ _ h⟩
theorem sqt_rd {F : Hp} {a : Addr} {xs : List V} (h : Rd F a (.tup xs)) : SqT K F a xs := .inl h
theorem Shl.tup {xs : List D} (h : Shl K S v (.tup xs)) (ok : Ok K T S) : ∃ a vs, v = .ref a ∧ Rd S.F a (.tup vs) ∧ Rd S.H a (.tup vs) ∧ RpL K S.F vs xs := by
  rcases h with h | ⟨p, vs, ys, h1, h2, h3, h4⟩
  · cases h with
    | tup hs ha => exact ⟨_, _, rfl, hs, Rd.sub hs ok.sub, ha⟩
  · cases h2
theorem Shl.tuk {xs : List D} (h : Shl K S v (.tux false xs)) (ok : Ok K T S) : ∃ a vs, v = .ref a ∧ S.F a = some (.tup vs) ∧ S.H a = some (.tup vs) ∧ RpL K S.F vs xs := by
  rcases h with h | ⟨p, vs, ys, h1, h2, h3, h4⟩
  · cases h with
    | tuk hs ha => exact ⟨_, _, rfl, hs, ok.sub _ _ hs, ha⟩
  · cases h2
theorem Shl.tux {xs : List D} (h : Shl K S v (.tux true xs)) (ok : Ok K T S) : ∃ a ob vs, v = .ref a ∧ ob.cls = .type "tuple" ∧ ob.dict = none ∧ S.F a = some (.frz ob (.tup vs)) ∧ S.H a = some (.frz ob (.tup vs)) ∧ RpL K S.F vs xs := by
  rcases h with h | ⟨p, vs, ys, h1, h2, h3, h4⟩
  · cases h with
    | tux hs h1 h2 ha => exact ⟨_, _, _, rfl, h1, h2, hs, ok.sub _ _ hs, ha⟩
  · cases h2
theorem Shl.val {d : D} (h : Shl K S v d) (n : ∀ xs, d ≠ .lst xs) : Rp K S.F v d := by
  rcases h with h | ⟨p, vs, ys, h1, h2, h3, h4⟩
  · exact h
  · exact absurd h2 (n ys)
end
end DL
/-! The judgements over data, and the rules of expressions -/
namespace DL
open PySem PySem.Spec PyProof.Rows L2

/-! ### the widest readings -/
section
variable (X : Cx)
def wE (e : Expr) : TE := fun σ H Q => ∀ (pins : List (Addr × Obj)) (s : Shared), Inv X pins σ H s → wpAny (model X.prog X.w) X.A (eval e X.env) (EP X pins σ Q) X.xe s
def wT (e : Expr) : TT := fun σ H Q => ∀ (pins : List (Addr × Obj)) (s : Shared), Inv X pins σ H s → wpAny (model X.prog X.w) X.A (isTrue e X.env (eval e X.env)) (TP X pins σ Q) X.xe s
def wW (e : Expr) : TT := fun σ H Q => ∀ (wh : Sem Value) (pins : List (Addr × Obj)) (s : Shared), Inv X pins σ H s → wpAny (model X.prog X.w) X.A (isTrue e X.env wh) (TP X pins σ Q) X.xe s
def wA (es : List Expr) : TA := fun σ H Q => ∀ (pos : Pos) (pins : List (Addr × Obj)) (s : Shared), Inv X pins σ H s → wpAny (model X.prog X.w) X.A (spliced (backTo pos (starEach es X.env))) (AP X pins σ Q) X.xe s
def wS (st : Stmt) : TS := fun D σ H => ∀ (pins : List (Addr × Obj)) (s : Shared), Inv X pins σ H s → wpAny (model X.prog X.w) X.A (exec st X.env) (SP X pins D) X.xe s
def wSs (st : List Stmt) : TS := fun D σ H => ∀ (pins : List (Addr × Obj)) (s : Shared), Inv X pins σ H s → wpAny (model X.prog X.w) X.A (execs st X.env) (SP X pins D) X.xe s
def wG (tg : Expr) : TG := fun v σ H Q => ∀ (pins : List (Addr × Obj)) (s : Shared) (u : Value), Inv X pins σ H s → RelV v u →
  wpAny (model X.prog X.w) X.A (assign tg X.env u) (fun _ s' => ∃ σ' H', Inv X pins σ' H' s' ∧ Q σ' H') X.xe s
def wO (f : Value → Value → Sem Value) : R2 := fun x y H Q => ∀ (pins : List (Addr × Obj)) (s : Shared) (σ : L2.St) (v u : Value), Inv X pins σ H s → RelV x v → RelV y u →
  wpAny (model X.prog X.w) X.A (f v u) (EP X pins σ Q) X.xe s
variable {X}
theorem pe_w {e : Expr} : PE X e (wE X e) := ⟨fun pins s σ H Q I h => h pins s I⟩
theorem pt_w {e : Expr} : PT X e (wT X e) := ⟨fun pins s σ H Q I h => h pins s I⟩
theorem pw_w {e : Expr} : PW X e (wW X e) := ⟨fun wh pins s σ H Q I h => h wh pins s I⟩
theorem pa_w {es : List Expr} : PA X es (wA X es) := ⟨fun pos pins s σ H Q I h => h pos pins s I⟩
theorem ps_w {st : Stmt} : PS X st (wS X st) := ⟨fun pins s σ H D I h => h pins s I⟩
theorem pss_w {st : List Stmt} : PSs X st (wSs X st) := ⟨fun pins s σ H D I h => h pins s I⟩
theorem pg_w {tg : Expr} : PG X tg (wG X tg) := ⟨fun pins s σ H v u Q I r h => h pins s u I r⟩
theorem op_w {f : Value → Value → Sem Value} : OpR X f (wO X f) := fun pins s σ H x y v u Q I rx ry h => h pins s σ v u I rx ry
theorem wE.of {e : Expr} {t : TE} {σ : L2.St} {H : Hp} {Q : VK} (h : PE X e t) (q : t σ H Q) : wE X e σ H Q := fun pins s I => h.run pins s σ H Q I q
theorem wT.of {e : Expr} {t : TT} {σ : L2.St} {H : Hp} {Q : Bool → Hp → Prop} (h : PT X e t) (q : t σ H Q) : wT X e σ H Q := fun pins s I => h.run pins s σ H Q I q
theorem wW.of {e : Expr} {t : TT} {σ : L2.St} {H : Hp} {Q : Bool → Hp → Prop} (h : PW X e t) (q : t σ H Q) : wW X e σ H Q := fun wh pins s I => h.run wh pins s σ H Q I q
theorem wA.of {es : List Expr} {t : TA} {σ : L2.St} {H : Hp} {Q : List V → Hp → Prop} (h : PA X es t) (q : t σ H Q) : wA X es σ H Q := fun pos pins s I => h.run pos pins s σ H Q I q
theorem wS.of {st : Stmt} {t : TS} {σ : L2.St} {H : Hp} {D : Ends} (h : PS X st t) (q : t D σ H) : wS X st D σ H := fun pins s I => h.run pins s σ H D I q
theorem wSs.of {st : List Stmt} {t : TS} {σ : L2.St} {H : Hp} {D : Ends} (h : PSs X st t) (q : t D σ H) : wSs X st D σ H := fun pins s I => h.run pins s σ H D I q
theorem wG.of {tg : Expr} {t : TG} {σ : L2.St} {H : Hp} {v : V} {Q : L2.St → Hp → Prop} (h : PG X tg t) (q : t v σ H Q) : wG X tg v σ H Q := fun pins s u I r => h.run pins s σ H v u Q I r q
theorem wO.of {f : Value → Value → Sem Value} {t : R2} {x y : V} {H : Hp} {Q : VK} (h : OpR X f t) (q : t x y H Q) : wO X f x y H Q := fun pins s σ v u I rx ry => h pins s σ H x y v u Q I rx ry q
end

/-! ### contexts, errors -/
structure Er where
  cls : Addr
  fs : List (Str × D)
def ErR (K : PySem.W.Frag) (S : Sx) (er : Er) (cls : Value) (d : Option Addr) : Prop :=
  cls = .ref er.cls ∧ ((er.fs = [] ∧ d = none) ∨ er.fs ≠ [] ∧ ∃ a vs, d = some a ∧ S.H a = some (.xd vs) ∧ KvR K S.F vs er.fs)
structure Cd where
  X : Cx
  T : Tz
  S0 : Sx
  W : WX
  R : Er → List Sl → Prop
  k : Nat
structure Cd.Wf (C : Cd) : Prop where
  tk : L2N.Takes C.X C.W
  room : Room C.k C.X.A
  calm : C.X.calm = true
  nd : C.X.N.Nodup
  po : PassesOwn (model C.X.prog C.X.w) C.X.A C.X.env C.X.xe
  lk : ∀ er S cls d, C.R er S.ρ → Ok C.X.K C.T S → Go C.S0 S → ErR C.X.K S er cls d → C.W cls d S.σ S.H

abbrev TEd := List Sl → (Rv → List Sl → Prop) → Prop
abbrev TTd := List Sl → (Bool → List Sl → Prop) → Prop
abbrev TAd := List Sl → (List Rv → List Sl → Prop) → Prop
/-- a state for the same slots -/
abbrev Sx.to (S : Sx) (F : Hp) (ρ : List Sl) (H : Hp) : Sx := ⟨F, ρ, S.σ, H⟩
def PEd (C : Cd) (e : Expr) (t : TEd) : Prop := C.Wf → ∀ (S : Sx) (Q : Rv → List Sl → Prop) (Q' : VK), Ok C.X.K C.T S → Go C.S0 S → t S.ρ Q →
  (∀ r v F' ρ' H', Q r ρ' → Ok C.X.K C.T (S.to F' ρ' H') → Go S (S.to F' ρ' H') → rvR C.X.K S.H (S.to F' ρ' H') r v → Q' v H') → wE C.X e S.σ S.H Q'
def PTd (C : Cd) (e : Expr) (t : TTd) : Prop := C.Wf → ∀ (S : Sx) (Q : Bool → List Sl → Prop) (Q' : Bool → Hp → Prop), Ok C.X.K C.T S → Go C.S0 S → t S.ρ Q →
  (∀ b F' ρ' H', Q b ρ' → Ok C.X.K C.T (S.to F' ρ' H') → Go S (S.to F' ρ' H') → Q' b H') → wT C.X e S.σ S.H Q'
def PWd (C : Cd) (e : Expr) (t : TTd) : Prop := C.Wf → ∀ (S : Sx) (Q : Bool → List Sl → Prop) (Q' : Bool → Hp → Prop), Ok C.X.K C.T S → Go C.S0 S → t S.ρ Q →
  (∀ b F' ρ' H', Q b ρ' → Ok C.X.K C.T (S.to F' ρ' H') → Go S (S.to F' ρ' H') → Q' b H') → wW C.X e S.σ S.H Q'
/-- settled results of an argument list -/
def rvL (K : PySem.W.Frag) (S : Sx) : List Rv → List V → Prop
  | [], [] => True
  | .val d :: rs, v :: vs => Rp K S.F v d ∧ rvL K S rs vs
  | .own i :: rs, v :: vs => S.σ[i]? = some (some v) ∧ rvL K S rs vs
  | _, _ => False
def PAd (C : Cd) (es : List Expr) (t : TAd) : Prop := C.Wf → ∀ (S : Sx) (Q : List Rv → List Sl → Prop) (Q' : List V → Hp → Prop), Ok C.X.K C.T S → Go C.S0 S → t S.ρ Q →
  (∀ rs vs F' ρ' H', Q rs ρ' → Ok C.X.K C.T (S.to F' ρ' H') → Go S (S.to F' ρ' H') → rvL C.X.K (S.to F' ρ' H') rs vs → vs.length = es.length → Q' vs H') → wA C.X es S.σ S.H Q'

section
variable {K : PySem.W.Frag} {T : Tz} {S0 S S' : Sx} {v : V}
theorem rvL.go (g : Go S S') (e : S'.σ = S.σ) : ∀ {rs : List Rv} {vs : List V}, rvL K S rs vs → rvL K S' rs vs
  | [], [], _ => trivial
  | .val d :: rs, v :: vs, h => ⟨Rp.mono g.g _ _ h.1, rvL.go g e h.2⟩
  | .own i :: rs, v :: vs, h => ⟨by rw [e]; exact h.1, rvL.go g e h.2⟩
  | .new _ :: _, _, h => (show False from h).elim
  | .nob _ :: _, _, h => (show False from h).elim
  | [], _ :: _, h => (show False from h).elim
  | .val _ :: _, [], h => (show False from h).elim
  | .own _ :: _, [], h => (show False from h).elim
theorem upd_some {F : Hp} {p a : Addr} {o u : HO} (h : upd F p o a = some u) : (a = p ∧ u = o) ∨ (a ≠ p ∧ F a = some u) := by
  by_cases e : a = p
  · subst e; rw [upd_same] at h; cases h; exact .inl ⟨rfl, rfl⟩
  · rw [upd_ne e] at h; exact .inr ⟨e, h⟩
theorem upd_nn {F : Hp} {p a : Addr} {o : HO} (h : upd F p o a ≠ none) : a = p ∨ F a ≠ none := by
  by_cases e : a = p
  · exact .inl e
  · rw [upd_ne e] at h; exact .inr h
/-- the state with one list more in F -/
theorem Ok.grow {p : Addr} {o : HO} (ok : Ok K T S) (hp : S.H p = some o) (hf : S.F p = none) (no : ¬ Own S p) : Ok K T ⟨upd S.F p o, S.ρ, S.σ, S.H⟩ where
  sub := fun a u h => by
    rcases upd_some h with ⟨rfl, rfl⟩ | ⟨_, h⟩
    · exact hp
    · exact ok.sub a u h
  tab := ok.tab
  len := ok.len
  slot := fun i s h => by
    cases w : s.owned with
    | false => exact (ok.slot i s h).val w (G.new hf)
    | true =>
      obtain ⟨q, u, h1, h2, h3, h4⟩ := (ok.slot i s h).at w
      refine slR.of (p := q) (u := u) h1 ?_ h3 (h4.mono (G.new hf))
      have ne : q ≠ p := fun e => no ⟨i, s, h, w, by rw [← e]; exact h1⟩
      show upd S.F p o q = none
      rw [upd_ne ne]; exact h2
  dis := ok.dis
theorem Go.grow {p : Addr} {o : HO} (g : Go S0 S) (hf : S.F p = none) (h0 : S0.H p = none) : Go S0 ⟨upd S.F p o, S.ρ, S.σ, S.H⟩ where
  g := g.g.trans (G.new hf)
  kp := g.kp
  nw := fun a h => by
    rcases upd_nn h with rfl | h
    · exact .inr (.inl h0)
    · exact g.nw a h
  ow := g.ow
  fr := g.fr
  dom := g.dom
  pin := g.pin
/-- no list of its own any more -/
def stl : Rv → Rv
  | .new xs => .val (.lst xs)
  | r => r
theorem settle {r : Rv} (ok : Ok K T S) (g : Go S0 S) (h : rvR K S0.H S r v) : ∃ F', Ok K T (S.to F' S.ρ S.H) ∧ Go S0 (S.to F' S.ρ S.H) ∧ Go S (S.to S.F S.ρ S.H) ∧ G S.F F' ∧ rvR K S0.H (S.to F' S.ρ S.H) (stl r) v := by
  cases r with
  | val d => exact ⟨S.F, ok, g, Go.refl _, G.refl _, h⟩
  | own i => exact ⟨S.F, ok, g, Go.refl _, G.refl _, h⟩
  | nob s => exact ⟨S.F, ok, g, Go.refl _, G.refl _, h⟩
  | new xs =>
    obtain ⟨p, vs, rfl, h2, h3, h4, h5, h6⟩ := h
    exact ⟨upd S.F p (.lst vs), ok.grow h4 h3 h6, g.grow h3 h2, Go.refl _, G.new h3, .lst upd_same (RpL.mono (G.new h3) _ _ h5)⟩
theorem rd_stl {ρ : List Sl} : ∀ r : Rv, rd ρ (stl r) = rd ρ r
  | .val _ => rfl
  | .own _ => rfl
  | .new _ => rfl
  | .nob _ => rfl
/-- an owned slot's list is shared from now on -/
theorem freeze {i : Nat} {xs : List D} {v : V} (ok : Ok K T S) (hs : S.ρ[i]? = some (.ow true xs)) (hv : S.σ[i]? = some (some v)) :
    ∃ F', Ok K T (S.to F' (S.ρ.set i (.sh (.lst xs))) S.H) ∧ Go S (S.to F' (S.ρ.set i (.sh (.lst xs))) S.H) ∧ G S.F F' ∧ Rp K F' v (.lst xs) := by
  obtain ⟨p, vs, h1, h2, h3, h4⟩ := ok.slot i _ hs
  rw [hv] at h1
  have ev : v = .ref p := Option.some.inj (Option.some.inj h1)
  subst ev
  have hi : i < S.ρ.length := (List.getElem?_eq_some_iff.mp hs).1
  have gn : G S.F (upd S.F p (.lst vs)) := G.new h2
  have at_ : ∀ (j : Nat) (s : Sl), (S.ρ.set i (.sh (.lst xs)))[j]? = some s → s.owned = true → j ≠ i ∧ S.ρ[j]? = some s := fun j s h w => by
    by_cases e : j = i
    · subst e
      rw [List.getElem?_set_self hi] at h
      cases h; cases w
    · rw [List.getElem?_set_ne (Ne.symm e)] at h
      exact ⟨e, h⟩
  refine ⟨upd S.F p (.lst vs), ⟨fun a u h => ?_, ok.tab, by simpa using ok.len, fun j s h => ?_, fun j k s t a h1 h2 w1 w2 => ok.dis j k s t a (at_ j s h1 w1).2 (at_ k t h2 w2).2 w1 w2⟩, ⟨gn, fun a o h _ _ => h, fun a h => ?_, fun a ⟨j, s, q1, q2, q3⟩ => .inl ⟨j, s, (at_ j s q1 q2).2, q2, q3⟩,
    fun a ⟨j, s, q1, q2, q4, q3⟩ => .inl ⟨j, s, (at_ j s q1 q2).2, q2, q4, q3⟩, fun a h => h, fun j s q1 q2 q3 => ⟨rfl, s, (at_ j s q1 q2).2, q2, q3⟩⟩, gn, .lst upd_same (RpL.mono gn _ _ h4)⟩
  · rcases upd_some h with ⟨rfl, rfl⟩ | ⟨_, h⟩
    · exact h3
    · exact ok.sub a u h
  · by_cases e : j = i
    · subst e
      rw [List.getElem?_set_self hi] at h
      cases h
      exact ⟨.ref p, hv, .lst upd_same (RpL.mono gn _ _ h4)⟩
    · rw [List.getElem?_set_ne (Ne.symm e)] at h
      cases w : s.owned with
      | false => exact (ok.slot j s h).val w gn
      | true =>
        obtain ⟨q, u, h5, h6, h7, h8⟩ := (ok.slot j s h).at w
        refine slR.of (p := q) (u := u) h5 ?_ h7 (h8.mono gn)
        have ne : q ≠ p := fun z => e (ok.dis j i s _ q h hs w rfl h5 (by rw [z]; exact hv))
        show upd S.F p (.lst vs) q = none
        rw [upd_ne ne]; exact h6
  · rcases upd_nn h with rfl | h
    · exact .inr (.inr ⟨i, _, hs, rfl, rfl, hv⟩)
    · exact .inl h
/-- a result as data, to be stored -/
def cl1 (ρ : List Sl) : Rv → Option (D × List Sl)
  | .val d => some (d, ρ)
  | .new xs => some (.lst xs, ρ)
  | .nob _ => none
  | .own i => match ρ[i]? with
    | some (.ow true xs) => some (.lst xs, ρ.set i (.sh (.lst xs)))
    | some (.sh d) => some (d, ρ)
    | _ => none
theorem cl1_own {ρ ρ' : List Sl} {i : Nat} {d : D} (h : cl1 ρ (.own i) = some (d, ρ')) : (∃ xs, ρ[i]? = some (.ow true xs) ∧ d = .lst xs ∧ ρ' = ρ.set i (.sh (.lst xs))) ∨ (ρ[i]? = some (.sh d) ∧ ρ' = ρ) := by
  unfold cl1 at h
  split at h
  · rename_i e; cases e
  · rename_i e; cases e
  · rename_i e; cases e
  · rename_i j e
    cases e
    split at h
    · rename_i xs q
      cases h
      exact .inl ⟨xs, q, rfl, rfl⟩
    · rename_i d' q
      cases h
      exact .inr ⟨q, rfl⟩
    · cases h
theorem clean {r : Rv} {d : D} {ρ' : List Sl} (ok : Ok K T S) (g : Go S0 S) (h : rvR K S0.H S r v) (e : cl1 S.ρ r = some (d, ρ')) :
    ∃ F', Ok K T (S.to F' ρ' S.H) ∧ Go S0 (S.to F' ρ' S.H) ∧ G S.F F' ∧ Rp K F' v d := by
  cases r with
  | nob s => cases e
  | val d' => cases e; exact ⟨S.F, ok, g, G.refl _, h⟩
  | new xs =>
    cases e
    obtain ⟨F', h1, h2, _, h3, h4⟩ := settle ok g h
    exact ⟨F', h1, h2, h3, h4⟩
  | own i =>
    rcases cl1_own e with ⟨xs, q, rfl, rfl⟩ | ⟨q, rfl⟩
    · obtain ⟨F', h1, h2, h3, h4⟩ := freeze ok q h
      exact ⟨F', h1, g.trans h2, h3, h4⟩
    · obtain ⟨v', h1, h2⟩ := ok.slot i _ q
      rw [show S.σ[i]? = some (some v) from h] at h1
      rw [← Option.some.inj (Option.some.inj h1)] at h2
      exact ⟨S.F, ok, g, G.refl _, h2⟩
def clL : List Sl → List Rv → Option (List D × List Sl)
  | ρ, [] => some ([], ρ)
  | ρ, r :: rs => match cl1 ρ r with
    | some (d, ρ1) => match clL ρ1 rs with
      | some (ds, ρ2) => some (d :: ds, ρ2)
      | none => none
    | none => none
theorem cleanL : ∀ {rs : List Rv} {vs : List V} {S : Sx} {ds : List D} {ρ' : List Sl}, Ok K T S → Go S0 S → rvL K S rs vs → clL S.ρ rs = some (ds, ρ') →
    ∃ F', Ok K T (S.to F' ρ' S.H) ∧ Go S0 (S.to F' ρ' S.H) ∧ G S.F F' ∧ RpL K F' vs ds
  | [], [], S, ds, ρ', ok, g, _, e => by
    cases e
    exact ⟨S.F, ok, g, G.refl _, .nil⟩
  | r :: rs, v :: vs, S, ds, ρ', ok, g, h, e => by
    have h' : rvR K S0.H S r v ∧ rvL K S rs vs := by
      cases r with
      | val d => exact h
      | own i => exact h
      | new xs => exact (show False from h).elim
      | nob s => exact (show False from h).elim
    unfold clL at e
    split at e
    · rename_i d ρ1 q
      split at e
      · rename_i ds' ρ2 q2
        cases e
        obtain ⟨F1, ok1, g1, gF, r1⟩ := clean ok g h'.1 q
        have hgo : rvL K (S.to F1 ρ1 S.H) rs vs := by
          clear q2
          have : ∀ {rs : List Rv} {vs : List V}, rvL K S rs vs → rvL K (S.to F1 ρ1 S.H) rs vs := by
            intro rs
            induction rs with
            | nil => intro vs h; cases vs <;> exact h
            | cons r rs ih =>
              intro vs h
              cases vs with
              | nil => cases r <;> exact (show False from h).elim
              | cons v vs =>
                cases r with
                | val d => exact ⟨Rp.mono gF _ _ h.1, ih h.2⟩
                | own i => exact ⟨h.1, ih h.2⟩
                | new xs => exact (show False from h).elim
                | nob s => exact (show False from h).elim
          exact this h'.2
        obtain ⟨F2, ok2, g2, gF2, r2⟩ := cleanL ok1 g1 hgo q2
        exact ⟨F2, ok2, g2, gF.trans gF2, .cons (Rp.mono gF2 _ _ r1) r2⟩
      · cases e
    · cases e
  | [], _ :: _, _, _, _, _, _, h, _ => (show False from h).elim
  | .val _ :: _, [], _, _, _, _, _, h, _ => (show False from h).elim
  | .own _ :: _, [], _, _, _, _, _, h, _ => (show False from h).elim
  | .new _ :: _, [], _, _, _, _, _, h, _ => (show False from h).elim
  | .nob _ :: _, [], _, _, _, _, _, h, _ => (show False from h).elim
end

/-! ### names, constants -/
section
variable {C : Cd}
def rVar (i : Nat) : TEd := fun ρ Q => match ρ[i]? with
  | some (.sh d) => Q (.val d) ρ
  | some .no => False
  | some _ => Q (.own i) ρ
  | none => False
def rC (d : D) : TEd := fun ρ Q => Q (.val d) ρ
theorem rVar_own {ρ : List Sl} {i : Nat} {Q : Rv → List Sl → Prop} (h : rVar i ρ Q) : (∃ d, ρ[i]? = some (.sh d) ∧ Q (.val d) ρ) ∨ (∃ s, ρ[i]? = some s ∧ s ≠ .no ∧ (∀ d, s ≠ .sh d) ∧ Q (.own i) ρ) := by
  unfold rVar at h
  split at h
  · rename_i d q; exact .inl ⟨d, q, h⟩
  · exact h.elim
  · rename_i s q1 q2 q3; exact .inr ⟨s, q3, fun z => q2 (by rw [z]), fun d z => q1 d (by rw [z]), h⟩
  · exact h.elim
theorem slot_some {K : PySem.W.Frag} {T : Tz} {S : Sx} {i : Nat} {s : Sl} (ok : Ok K T S) (h : S.ρ[i]? = some s) (n : s ≠ .no) : ∃ v, S.σ[i]? = some (some v) := by
  have q := ok.slot i s h
  cases s with
  | no => exact absurd rfl n
  | sh d => obtain ⟨v, e, _⟩ := q; exact ⟨v, e⟩
  | scr d => obtain ⟨v, e, _⟩ := q; exact ⟨_, e⟩
  | ow f xs => obtain ⟨p, _, e, _⟩ := q; exact ⟨_, e⟩
  | bg f xs => obtain ⟨p, _, _, _, e, _⟩ := q; exact ⟨_, e⟩
  | dt f xs => obtain ⟨p, _, e, _⟩ := q; exact ⟨_, e⟩
  | dk f xs => obtain ⟨p, _, e, _⟩ := q; exact ⟨_, e⟩
theorem d_var (i : Nat) {x : Str} {pos : Pos} (hN : C.X.N[i]? = some x) (hv : Vis C.X.env.scope x) (hd : (x == ("__debug__" : Str)) = false := by decide) (hcd : (x == ("__classdict__" : Str)) = false := by decide) :
    PEd C (.Name x pos) (rVar i) := by
  intro c S Q Q' ok g0 h k
  refine wE.of (pe_var hN hv hd hcd) ?_
  rcases rVar_own h with ⟨d, q, h⟩ | ⟨s, q, n, _, h⟩
  · obtain ⟨v, e, r⟩ := ok.slot i _ q
    exact ⟨v, e, k _ v S.F S.ρ S.H h ok (Go.refl _) r⟩
  · obtain ⟨v, e⟩ := slot_some ok q n
    exact ⟨v, e, k _ v S.F S.ρ S.H h ok (Go.refl _) e⟩
theorem d_int {i j pos} : PEd C (.Constant (.int i) j pos) (rC (.int i)) := fun c S Q Q' ok g0 h k => wE.of pe_int (k _ _ S.F S.ρ S.H h ok (Go.refl _) (.int i))
theorem d_bl {i j pos} : PEd C (.Constant (.bool i) j pos) (rC (.bl i)) := fun c S Q Q' ok g0 h k => wE.of pe_bl (k _ _ S.F S.ρ S.H h ok (Go.refl _) (.bl i))
theorem d_non {j pos} : PEd C (.Constant .none j pos) (rC .non) := fun c S Q Q' ok g0 h k => wE.of pe_non (k _ _ S.F S.ρ S.H h ok (Go.refl _) .non)
theorem d_str {x j pos} : PEd C (.Constant (.str x) j pos) (rC (.str x)) := fun c S Q Q' ok g0 h k => wE.of pe_str (k _ _ S.F S.ρ S.H h ok (Go.refl _) (.str x))
/-- a module's constant: an int -/
theorem d_globI {x : Str} {i : Int} {pos : Pos} (hg : Gl C.X x) (hm : ∃ t, C.X.mg x = some (.int i t)) (hd : (x == ("__debug__" : Str)) = false := by decide) : PEd C (.Name x pos) (rC (.int i)) := fun c S Q Q' ok g0 h k =>
  let ⟨t, e⟩ := hm
  wE.of (pe_glob (v := .int i) hg e ⟨t, rfl⟩ hd) (k _ _ S.F S.ρ S.H h ok (Go.refl _) (.int i))

/-! ### operators by data -/
abbrev DOp := D → D → (Rv → Prop) → Prop
def OpD (C : Cd) (f : Value → Value → Sem Value) (dop : DOp) : Prop := C.Wf → ∀ (S : Sx) (x y : V) (a b : D) (Q : Rv → Prop) (Q' : VK), Ok C.X.K C.T S → Shl C.X.K S x a → Shl C.X.K S y b → dop a b Q →
  (∀ r v F' H', Q r → Ok C.X.K C.T (S.to F' S.ρ H') → Go S (S.to F' S.ρ H') → rvR C.X.K S.H (S.to F' S.ρ H') r v → Q' v H') → wO C.X f x y S.H Q'
def rBin (dop : DOp) (ta tb : TEd) : TEd := fun ρ Q => ta ρ fun x ρ1 => tb ρ1 fun y ρ2 => match rd ρ2 x, rd ρ2 y with
  | some a, some b => dop a b fun r => Q r ρ2
  | _, _ => False
/-- two operands, then f -/
theorem bin2 {f : Value → Value → Sem Value} {dop : DOp} {a b : Expr} {ta tb : TEd} (o : OpD C f dop) (ha : PEd C a ta) (hb : PEd C b tb) (c : C.Wf) (S : Sx) (Q : Rv → List Sl → Prop) (Q' : VK) (ok : Ok C.X.K C.T S) (g0 : Go C.S0 S) (h : rBin dop ta tb S.ρ Q)
    (k : ∀ r v F' ρ' H', Q r ρ' → Ok C.X.K C.T (S.to F' ρ' H') → Go S (S.to F' ρ' H') → rvR C.X.K S.H (S.to F' ρ' H') r v → Q' v H') :
    wE C.X a S.σ S.H fun x H1 => wE C.X b S.σ H1 fun y H2 => wO C.X f x y H2 Q' := by
  refine ha c S _ _ ok g0 h fun x v F1 ρ1 H1 h1 ok1 g1 r1 => ?_
  obtain ⟨F1', ok1', g1', _, gF, r1'⟩ := settle ok1 g1 r1
  refine hb c (S.to F1' ρ1 H1) _ _ ok1' (g0.trans g1') h1 fun y u F2 ρ2 H2 h2 ok2 g2 r2 => ?_
  have r1'' := r1'.go g2 rfl
  split at h2
  · rename_i da db e1 e2
    rw [← rd_stl] at e1
    refine o c (S.to F2 ρ2 H2) v u da db _ _ ok2 (ok2.rd r1'' e1) (ok2.rd (r2.start fun a z => g1'.dom a z) e2) h2 fun r w F3 H3 h3 ok3 g3 r3 => ?_
    exact k r w F3 ρ2 H3 h3 ok3 ((g1'.trans g2).trans g3) (r3.start fun a z => (g1'.trans g2).dom a z)
  · exact h2.elim
theorem d_bin {op : Operator} {dop : DOp} {a b : Expr} {ta tb : TEd} {pos : Pos} (o : OpD C (binaryOp op) dop) (ha : PEd C a ta) (hb : PEd C b tb) : PEd C (.BinOp a op b pos) (rBin dop ta tb) := by
  intro c S Q Q' ok g0 h k
  exact wE.of (pe_op op_w pe_w pe_w) (bin2 o ha hb c S Q Q' ok g0 h k)
theorem d_cmp {op : CmpOp} {dop : DOp} {a b : Expr} {ta tb : TEd} {pos : Pos} (o : OpD C (compareOp op) dop) (ha : PEd C a ta) (hb : PEd C b tb) (hm : behindInMarks op b = false := by rfl) : PEd C (.Compare a [op] [b] pos) (rBin dop ta tb) := by
  intro c S Q Q' ok g0 h k
  exact wE.of (pe_cmpR op_w pe_w pe_w hm) (bin2 o ha hb c S Q Q' ok g0 h k)
end
end DL
/-! Operators over data -/
namespace DL
open PySem PySem.Spec PyProof.Rows L2
section
variable {K : PySem.W.Frag} {T : Tz} {S : Sx} {x y v : V}
theorem Shl.int {i : Int} (h : Shl K S x (.int i)) : x = .int i := by
  cases h.val (fun _ z => by cases z); rfl
theorem Shl.bl {i : Bool} (h : Shl K S x (.bl i)) : x = .bl i := by
  cases h.val (fun _ z => by cases z); rfl
theorem Shl.str {i : Str} (h : Shl K S x (.str i)) : x = .str i := by
  cases h.val (fun _ z => by cases z); rfl
theorem Shl.non (h : Shl K S x .non) : x = .non := by
  cases h.val (fun _ z => by cases z); rfl
theorem RpL.ints {K : PySem.W.Frag} {F : Hp} : ∀ {ns : List Int} {vs : List V}, RpL K F vs (ns.map D.int) → vs = ns.map V.int
  | [], _, h => by cases h; rfl
  | n :: ns, _, h => by
    cases h with
    | cons h1 h2 => cases h1; rw [RpL.ints h2]; rfl
theorem RpL.bls {K : PySem.W.Frag} {F : Hp} : ∀ {ns : List Bool} {vs : List V}, RpL K F vs (ns.map D.bl) → vs = ns.map V.bl
  | [], _, h => by cases h; rfl
  | n :: ns, _, h => by
    cases h with
    | cons h1 h2 => cases h1; rw [RpL.bls h2]; rfl
theorem RpL.strs {K : PySem.W.Frag} {F : Hp} : ∀ {ns : List Str} {vs : List V}, RpL K F vs (ns.map D.str) → vs = ns.map V.str
  | [], _, h => by cases h; rfl
  | n :: ns, _, h => by
    cases h with
    | cons h1 h2 => cases h1; rw [RpL.strs h2]; rfl
theorem RpL.of_ints {K : PySem.W.Frag} {F : Hp} : ∀ ns : List Int, RpL K F (ns.map V.int) (ns.map D.int)
  | [] => .nil
  | n :: ns => .cons (.int n) (RpL.of_ints ns)
/-- a scalar result: nothing changes -/
theorem fin_val {C : Cd} {Q : Rv → Prop} {Q' : VK} {d : D} {v : V} (ok : Ok C.X.K C.T S) (k : ∀ r v F' H', Q r → Ok C.X.K C.T (S.to F' S.ρ H') → Go S (S.to F' S.ρ H') → rvR C.X.K S.H (S.to F' S.ρ H') r v → Q' v H') (q : Q (.val d)) (r : Rp C.X.K S.F v d) : Q' v S.H :=
  k _ _ S.F S.H q ok (Go.refl _) r
/-- the state behind a new object -/
theorem Ok.laid {p : Addr} {o : HO} (ok : Ok K T S) (hp : S.H p = none) : Ok K T (S.to S.F S.ρ (upd S.H p o)) where
  sub := fun a u h => by
    have q := ok.sub a u h
    show upd S.H p o a = some u
    rw [upd_ne (ne_of_none q hp)]; exact q
  tab := ok.tab.ext fun b u q => by
    show upd S.H p o b = some u
    rw [upd_ne (ne_of_none q hp)]; exact q
  len := ok.len
  slot := fun i s h => by
    cases w : s.owned with
    | false => exact (ok.slot i s h).val w (G.refl _)
    | true =>
      obtain ⟨q, u, h1, h2, h3, h4⟩ := (ok.slot i s h).at w
      refine slR.of (p := q) (u := u) h1 h2 ?_ h4
      show upd S.H p o q = some u
      rw [upd_ne (ne_of_none h3 hp)]; exact h3
  dis := ok.dis
theorem Go.laid {p : Addr} {o : HO} (hp : S.H p = none) : Go S (S.to S.F S.ρ (upd S.H p o)) where
  g := G.refl _
  kp := fun a u h _ _ => by
    show upd S.H p o a = some u
    rw [upd_ne (ne_of_none h hp)]; exact h
  nw := fun a h => .inl h
  ow := fun a h => .inl h
  fr := fun a h => .inl h
  dom := fun a h => by
    have h : upd S.H p o a = none := h
    by_cases e : a = p
    · rw [e]; exact hp
    · rw [upd_ne e] at h; exact h
  pin := fun i s h1 h2 h3 => ⟨rfl, s, h1, h2, h3⟩
theorem Ok.freeN {p : Addr} (ok : Ok K T S) (hp : S.H p = none) : S.F p = none := by
  cases q : S.F p with
  | none => rfl
  | some u => rw [ok.sub p u q] at hp; cases hp
theorem Ok.noOwn {p : Addr} (ok : Ok K T S) (hp : S.H p = none) : ¬ Own S p := fun ⟨i, s, h1, h2, h3⟩ => by
  obtain ⟨q, u, e1, e2, e3, _⟩ := (ok.slot i s h1).at h2
  rw [h3] at e1
  have e := Option.some.inj (Option.some.inj e1)
  cases e
  rw [hp] at e3; cases e3
/-- a new list of these -/
theorem fin_new {C : Cd} {Q : Rv → Prop} {Q' : VK} {vs : List V} {xs : List D} (ok : Ok C.X.K C.T S) (k : ∀ r v F' H', Q r → Ok C.X.K C.T (S.to F' S.ρ H') → Go S (S.to F' S.ρ H') → rvR C.X.K S.H (S.to F' S.ρ H') r v → Q' v H') (q : Q (.new xs)) (r : RpL C.X.K S.F vs xs)
    {p : Addr} (hp : S.H p = none) : Q' (.ref p) (upd S.H p (.lst vs)) :=
  k (.new xs) (.ref p) S.F (upd S.H p (.lst vs)) q (ok.laid hp) (Go.laid hp) ⟨p, vs, rfl, hp, ok.freeN hp, upd_same, r, ok.noOwn hp⟩
/-- a new tuple of these -/
theorem fin_tup {C : Cd} {Q : Rv → Prop} {Q' : VK} {vs : List V} {xs : List D} (ok : Ok C.X.K C.T S) (k : ∀ r v F' H', Q r → Ok C.X.K C.T (S.to F' S.ρ H') → Go S (S.to F' S.ρ H') → rvR C.X.K S.H (S.to F' S.ρ H') r v → Q' v H') (q : Q (.val (.tup xs))) (r : RpL C.X.K S.F vs xs)
    {p : Addr} (hp : S.H p = none) : Q' (.ref p) (upd S.H p (.tup vs)) := by
  have hf := ok.freeN hp
  have ok1 : Ok C.X.K C.T (S.to S.F S.ρ (upd S.H p (.tup vs))) := ok.laid hp
  have ok2 : Ok C.X.K C.T ⟨upd S.F p (.tup vs), S.ρ, S.σ, upd S.H p (.tup vs)⟩ := Ok.grow (S := S.to S.F S.ρ (upd S.H p (.tup vs))) ok1 upd_same hf (ok.noOwn hp)
  have g2 : Go S ⟨upd S.F p (.tup vs), S.ρ, S.σ, upd S.H p (.tup vs)⟩ := Go.grow (S := S.to S.F S.ρ (upd S.H p (.tup vs))) (Go.laid hp) hf hp
  exact k (.val (.tup xs)) (.ref p) _ _ q ok2 g2 (.tup (.inl upd_same) (RpL.mono (G.new hf) _ _ r))
theorem fin_tupK {C : Cd} {Q : Rv → Prop} {Q' : VK} {vs : List V} {xs : List D} (ok : Ok C.X.K C.T S) (k : ∀ r v F' H', Q r → Ok C.X.K C.T (S.to F' S.ρ H') → Go S (S.to F' S.ρ H') → rvR C.X.K S.H (S.to F' S.ρ H') r v → Q' v H') (q : Q (.val (.tux false xs))) (r : RpL C.X.K S.F vs xs)
    {p : Addr} (hp : S.H p = none) : Q' (.ref p) (upd S.H p (.tup vs)) := by
  have hf := ok.freeN hp
  have ok1 : Ok C.X.K C.T (S.to S.F S.ρ (upd S.H p (.tup vs))) := ok.laid hp
  have ok2 : Ok C.X.K C.T ⟨upd S.F p (.tup vs), S.ρ, S.σ, upd S.H p (.tup vs)⟩ := Ok.grow (S := S.to S.F S.ρ (upd S.H p (.tup vs))) ok1 upd_same hf (ok.noOwn hp)
  have g2 : Go S ⟨upd S.F p (.tup vs), S.ρ, S.σ, upd S.H p (.tup vs)⟩ := Go.grow (S := S.to S.F S.ρ (upd S.H p (.tup vs))) (Go.laid hp) hf hp
  exact k (.val (.tux false xs)) (.ref p) _ _ q ok2 g2 (.tuk upd_same (RpL.mono (G.new hf) _ _ r))
theorem fin_tux {C : Cd} {Q : Rv → Prop} {Q' : VK} {vs : List V} {xs : List D} {ob : Obj} (ok : Ok C.X.K C.T S) (k : ∀ r v F' H', Q r → Ok C.X.K C.T (S.to F' S.ρ H') → Go S (S.to F' S.ρ H') → rvR C.X.K S.H (S.to F' S.ρ H') r v → Q' v H') (q : Q (.val (.tux true xs))) (r : RpL C.X.K S.F vs xs)
    {p : Addr} (hp : S.H p = none) (o1 : ob.cls = .type "tuple") (o2 : ob.dict = none) : Q' (.ref p) (upd S.H p (.frz ob (.tup vs))) := by
  have hf := ok.freeN hp
  have ok1 : Ok C.X.K C.T (S.to S.F S.ρ (upd S.H p (.frz ob (.tup vs)))) := ok.laid hp
  have ok2 : Ok C.X.K C.T ⟨upd S.F p (.frz ob (.tup vs)), S.ρ, S.σ, upd S.H p (.frz ob (.tup vs))⟩ := Ok.grow (S := S.to S.F S.ρ (upd S.H p (.frz ob (.tup vs)))) ok1 upd_same hf (ok.noOwn hp)
  have g2 : Go S ⟨upd S.F p (.frz ob (.tup vs)), S.ρ, S.σ, upd S.H p (.frz ob (.tup vs))⟩ := Go.grow (S := S.to S.F S.ρ (upd S.H p (.frz ob (.tup vs)))) (Go.laid hp) hf hp
  exact k (.val (.tux true xs)) (.ref p) _ _ q ok2 g2 (.tux upd_same o1 o2 (RpL.mono (G.new hf) _ _ r))
end

section
variable {C : Cd}
def addD : DOp
  | .int i, .int j, Q => Q (.val (.int (i + j)))
  | .str x, .str y, Q => x.length + y.length ≤ 16777216 ∧ Q (.val (.str (x ++ y)))
  | .lst xs, .lst ys, Q => xs.length + ys.length ≤ 16777216 ∧ Q (.new (xs ++ ys))
  | .tup xs, .tup ys, Q => xs.length + ys.length ≤ 16777216 ∧ Q (.val (.tup (xs ++ ys)))
  | _, _, _ => False
theorem o_add : OpD C (binaryOp .Add) addD := by
  intro c S x y a b Q Q' ok ha hb h k
  cases a with
  | int i =>
    cases b with
    | int j => exact wO.of op_add ⟨i, j, ha.int, hb.int, fin_val ok k h (.int _)⟩
    | _ => exact (show False from h).elim
  | str i =>
    cases b with
    | str j => exact wO.of op_add_str ⟨i, j, ha.str, hb.str, by rw [sizeLine_eq]; exact h.1, fin_val ok k h.2 (.str _)⟩
    | _ => exact (show False from h).elim
  | lst xs =>
    cases b with
    | lst ys =>
      obtain ⟨p, vs, rfl, h1, r1⟩ := ha.lst ok
      obtain ⟨q, us, rfl, h2, r2⟩ := hb.lst ok
      exact wO.of op_cat ⟨p, q, vs, us, rfl, rfl, h1, h2, by rw [r1.length, r2.length, sizeLine_eq]; exact h.1, fun l hl => fin_new ok k h.2 (r1.append r2) hl⟩
    | _ => exact (show False from h).elim
  | tup xs =>
    cases b with
    | tup ys =>
      obtain ⟨p, vs, rfl, f1, h1, r1⟩ := ha.tup ok
      obtain ⟨q, us, rfl, f2, h2, r2⟩ := hb.tup ok
      refine wO.of op_catA ⟨p, q, vs, us, rfl, rfl, sqt_rd h1, sqt_rd h2, by rw [r1.length, r2.length, sizeLine_eq]; exact h.1, fun e => ?_, fun _ e => ?_, fun _ _ l hl => fin_tup ok k h.2 (r1.append r2) hl⟩
      · subst e
        refine fin_val ok k h.2 ?_
        cases r1
        exact .tup f2 r2
      · subst e
        refine fin_val ok k h.2 ?_
        cases r2
        rw [List.append_nil]
        exact .tup f1 r1
    | _ => exact (show False from h).elim
  | _ => cases b <;> exact (show False from h).elim
def intD (g : Int → Int → Int) (c : Int → Int → Prop) : DOp
  | .int i, .int j, Q => c i j ∧ Q (.val (.int (g i j)))
  | _, _, _ => False
theorem o_int {f : Value → Value → Sem Value} {g : Int → Int → Int} {cc : Int → Int → Prop} (o : OpR C.X f (rI cc fun i j => .int (g i j))) : OpD C f (intD g cc) := by
  intro c S x y a b Q Q' ok ha hb h k
  cases a with
  | int i =>
    cases b with
    | int j => exact wO.of o ⟨i, j, ha.int, hb.int, h.1, fin_val ok k h.2 (.int _)⟩
    | _ => exact (show False from h).elim
  | _ => cases b <;> exact (show False from h).elim
theorem rI_of {f : Value → Value → Sem Value} {g : Int → Int → V} (o : OpR C.X f (rI0 g)) : OpR C.X f (rI (fun _ _ => True) g) := fun pins s σ H x y v u Q I rx ry h => o pins s σ H x y v u Q I rx ry (let ⟨i, j, a, b, _, d⟩ := h; ⟨i, j, a, b, d⟩)
theorem o_sub : OpD C (binaryOp .Sub) (intD (fun i j => i - j) fun _ _ => True) := o_int (rI_of op_sub)
/-- the factors together below a million bits -/
def CMulD (i j : Int) : Prop := i.natAbs.log2 + j.natAbs.log2 < 1000000
def CDivD (_ j : Int) : Prop := 0 < j ∧ j.natAbs.log2 < 9000
theorem o_div : OpD C (binaryOp .FloorDiv) (intD (fun i j => i / j) CDivD) := o_int op_fdivW
theorem o_mod : OpD C (binaryOp .Mod) (intD (fun i j => i % j) fun _ j => 0 < j) := o_int op_mod
theorem o_pow : OpD C (binaryOp .Pow) (intD (fun i j => i ^ j.toNat) CPow) := o_int op_pow
def mulD : DOp
  | .int i, .int j, Q => CMulD i j ∧ Q (.val (.int (i * j)))
  | .lst xs, .int j, Q => (-(2 ^ 63) ≤ j ∧ j < 2 ^ 63 ∧ xs.length * j.toNat ≤ 16777216) ∧ Q (.new (List.replicate j.toNat xs).flatten)
  | .tup xs, .int j, Q => (xs ≠ [] ∧ 2 ≤ j ∧ j ≤ 1000 ∧ xs.length ≤ 1000) ∧ Q (.val (.tup (List.replicate j.toNat xs).flatten))
  | _, _, _ => False
theorem o_mul : OpD C (binaryOp .Mult) mulD := by
  intro c S x y a b Q Q' ok ha hb h k
  cases a with
  | int i =>
    cases b with
    | int j => exact wO.of op_mulW ⟨i, j, ha.int, hb.int, h.1, fin_val ok k h.2 (.int _)⟩
    | _ => exact (show False from h).elim
  | lst xs =>
    cases b with
    | int j =>
      obtain ⟨p, vs, rfl, h1, r1⟩ := ha.lst ok
      obtain ⟨⟨q1, q2, q3⟩, q⟩ := h
      exact wO.of op_rep ⟨p, j, vs, rfl, hb.int, h1, q1, q2, by rw [r1.length, sizeLine_eq]; exact q3, fun l hl => fin_new ok k q (r1.rep _) hl⟩
    | _ => exact (show False from h).elim
  | tup xs =>
    cases b with
    | int j =>
      obtain ⟨p, vs, rfl, f1, h1, r1⟩ := ha.tup ok
      obtain ⟨⟨q0, q1, q2, q3⟩, q⟩ := h
      exact wO.of op_repT ⟨p, j, vs, rfl, hb.int, sqt_rd h1, fun e => q0 (by subst e; cases r1; rfl), q1, q2, by rw [r1.length]; exact q3, fun l hl => fin_tup ok k q (r1.rep _) hl⟩
    | _ => exact (show False from h).elim
  | _ => cases b <;> exact (show False from h).elim

/-! ### comparisons -/
def cmpI (g : Int → Int → Bool) : DOp
  | .int i, .int j, Q => Q (.val (.bl (g i j)))
  | _, _, _ => False
theorem o_cmpI {f : Value → Value → Sem Value} {g : Int → Int → Bool} (o : OpR C.X f (rI0 fun i j => .bl (g i j))) : OpD C f (cmpI g) := by
  intro c S x y a b Q Q' ok ha hb h k
  cases a with
  | int i =>
    cases b with
    | int j => exact wO.of o ⟨i, j, ha.int, hb.int, fin_val ok k h (.bl _)⟩
    | _ => exact (show False from h).elim
  | _ => cases b <;> exact (show False from h).elim
theorem o_lt : OpD C (compareOp .Lt) (cmpI fun i j => decide (i < j)) := o_cmpI op_lt
theorem o_le : OpD C (compareOp .LtE) (cmpI fun i j => decide (i ≤ j)) := o_cmpI op_le
theorem o_gt : OpD C (compareOp .Gt) (cmpI fun i j => decide (j < i)) := o_cmpI op_gt
theorem o_ge : OpD C (compareOp .GtE) (cmpI fun i j => decide (j ≤ i)) := o_cmpI op_ge
/-- scalars whose == is told at once -/
def scD : D → D → Option Bool
  | .non, .non => some true
  | .non, .int _ => some false
  | .int _, .non => some false
  | .non, .bl _ => some false
  | .bl _, .non => some false
  | .non, .str _ => some false
  | .str _, .non => some false
  | .int i, .int j => some (decide (i = j))
  | .bl i, .bl j => some (decide (i = j))
  | .str i, .str j => some (decide (i = j))
  | _, _ => none
/-- == : scalars, else as data goes -/
def eqD (neg : Bool) : DOp := fun a b Q => match scD a b with
  | some c => Q (.val (.bl (if neg then !c else c)))
  | none => (SeqAt.shaped a.py = true ∧ SeqAt.shaped b.py = true) ∧ Q (.val (.bl (if neg then !PyData.eqv a.py b.py else PyData.eqv a.py b.py)))
theorem scD_v {K : PySem.W.Frag} {S : Sx} {x y : V} {a b : D} {c : Bool} (ha : Shl K S x a) (hb : Shl K S y b) (h : scD a b = some c) : scal x y = true ∧ decide (x = y) = c := by
  cases a with
  | non =>
    have ex := ha.non; subst ex
    cases b with
    | non => have e := hb.non; subst e; cases h; exact ⟨rfl, by simp⟩
    | int j => have e := hb.int; subst e; cases h; exact ⟨rfl, by simp⟩
    | bl j => have e := hb.bl; subst e; cases h; exact ⟨rfl, by simp⟩
    | str j => have e := hb.str; subst e; cases h; exact ⟨rfl, by simp⟩
    | _ => cases h
  | int i =>
    have ex := ha.int; subst ex
    cases b with
    | non => have e := hb.non; subst e; cases h; exact ⟨rfl, by simp⟩
    | int j => have e := hb.int; subst e; cases h; exact ⟨rfl, by simp⟩
    | _ => cases h
  | bl i =>
    have ex := ha.bl; subst ex
    cases b with
    | non => have e := hb.non; subst e; cases h; exact ⟨rfl, by simp⟩
    | bl j => have e := hb.bl; subst e; cases h; exact ⟨rfl, by simp⟩
    | _ => cases h
  | str i =>
    have ex := ha.str; subst ex
    cases b with
    | non => have e := hb.non; subst e; cases h; exact ⟨rfl, by simp⟩
    | str j => have e := hb.str; subst e; cases h; exact ⟨rfl, by simp⟩
    | _ => cases h
  | _ => cases b <;> cases h
theorem o_eq : OpD C (compareOp .Eq) (eqD false) := by
  intro c S x y a b Q Q' ok ha hb h k
  unfold eqD at h
  split at h
  · rename_i t e
    obtain ⟨e1, e2⟩ := scD_v ha hb e
    exact wO.of op_eq ⟨e1, by rw [e2]; exact fin_val ok k h (.bl _)⟩
  · exact wO.of (op_eqD c.room.units) ⟨a.py, b.py, Rp.dp _ _ (SeqAt.canLay_of_shaped h.1.1) (ha.rp ok), Rp.dp _ _ (SeqAt.canLay_of_shaped h.1.2) (hb.rp ok), h.1.1, h.1.2, fin_val ok k h.2 (.bl _)⟩
theorem o_ne : OpD C (compareOp .NotEq) (eqD true) := by
  intro c S x y a b Q Q' ok ha hb h k
  unfold eqD at h
  split at h
  · rename_i t e
    obtain ⟨e1, e2⟩ := scD_v ha hb e
    exact wO.of op_ne ⟨e1, by rw [e2]; exact fin_val ok k h (.bl _)⟩
  · exact wO.of (op_neD c.room.units) ⟨a.py, b.py, Rp.dp _ _ (SeqAt.canLay_of_shaped h.1.1) (ha.rp ok), Rp.dp _ _ (SeqAt.canLay_of_shaped h.1.2) (hb.rp ok), h.1.1, h.1.2, fin_val ok k h.2 (.bl _)⟩
/-- is None, is not None -/
def isN (neg : Bool) : DOp
  | .non, .non, Q => Q (.val (.bl !neg))
  | .bl _, .non, Q => Q (.val (.bl neg))
  | .int _, .non, Q => Q (.val (.bl neg))
  | .str _, .non, Q => Q (.val (.bl neg))
  | .tup _, .non, Q => Q (.val (.bl neg))
  | .lst _, .non, Q => Q (.val (.bl neg))
  | .tux _ _, .non, Q => Q (.val (.bl neg))
  | .obj _ _ _, .non, Q => Q (.val (.bl neg))
  | .dic _ _, .non, Q => Q (.val (.bl neg))
  | .dik _ _, .non, Q => Q (.val (.bl neg))
  | _, _, _ => False
theorem isN_v {K : PySem.W.Frag} {S : Sx} {x : V} {a b : D} {neg : Bool} {Q : Rv → Prop} (ha : Shl K S x a) (h : isN neg a b Q) : b = .non ∧ Q (.val (.bl (if neg then !decide (x = .non) else decide (x = .non)))) := by
  cases b with
  | non =>
    refine ⟨rfl, ?_⟩
    cases a with
    | non => have e := ha.non; subst e; cases neg <;> simpa [isN] using h
    | int j => have e := ha.int; subst e; cases neg <;> simpa [isN] using h
    | bl j => have e := ha.bl; subst e; cases neg <;> simpa [isN] using h
    | str j => have e := ha.str; subst e; cases neg <;> simpa [isN] using h
    | tup j =>
      have e : ∃ p, x = .ref p := by
        rcases ha with r | ⟨p, vs, xs, e1, e2, _⟩
        · cases r with | tup => exact ⟨_, rfl⟩
        · cases e2
      obtain ⟨p, rfl⟩ := e
      cases neg <;> simpa [isN] using h
    | lst j =>
      have e : ∃ p, x = .ref p := by
        rcases ha with r | ⟨p, vs, xs, e1, e2, _⟩
        · cases r with | lst => exact ⟨_, rfl⟩
        · exact ⟨p, e1⟩
      obtain ⟨p, rfl⟩ := e
      cases neg <;> simpa [isN] using h
    | tux t j =>
      have e : ∃ p, x = .ref p := by
        rcases ha with r | ⟨p, vs, xs, e1, e2, _⟩
        · cases r <;> exact ⟨_, rfl⟩
        · cases e2
      obtain ⟨p, rfl⟩ := e
      cases neg <;> simpa [isN] using h
    | obj t j k =>
      have e : ∃ p, x = .ref p := by
        rcases ha with r | ⟨p, vs, xs, e1, e2, _⟩
        · cases r <;> exact ⟨_, rfl⟩
        · cases e2
      obtain ⟨p, rfl⟩ := e
      cases neg <;> simpa [isN] using h
    | dic t j =>
      have e : ∃ p, x = .ref p := by
        rcases ha with r | ⟨p, vs, xs, e1, e2, _⟩
        · cases r; exact ⟨_, rfl⟩
        · cases e2
      obtain ⟨p, rfl⟩ := e
      cases neg <;> simpa [isN] using h
    | dik t j =>
      have e : ∃ p, x = .ref p := by
        rcases ha with r | ⟨p, vs, xs, e1, e2, _⟩
        · cases r; exact ⟨_, rfl⟩
        · cases e2
      obtain ⟨p, rfl⟩ := e
      cases neg <;> simpa [isN] using h
  | _ => cases a <;> exact (show False from h).elim
theorem o_isN : OpD C (compareOp .Is) (isN false) := by
  intro c S x y a b Q Q' ok ha hb h k
  obtain ⟨rfl, q⟩ := isN_v ha h
  exact wO.of op_isN ⟨hb.non, fin_val ok k q (.bl _)⟩
theorem o_notN : OpD C (compareOp .IsNot) (isN true) := by
  intro c S x y a b Q Q' ok ha hb h k
  obtain ⟨rfl, q⟩ := isN_v ha h
  exact wO.of op_notN ⟨hb.non, fin_val ok k q (.bl _)⟩

/-! ### in -/
def flatD : D → Bool
  | .non => true
  | .bl _ => true
  | .int _ => true
  | .str _ => true
  | _ => false
theorem flat_v {K : PySem.W.Frag} {F : Hp} {v : V} {d : D} (r : Rp K F v d) (h : flatD d = true) : flatV v = true := by
  cases r <;> first | rfl | cases h
theorem flat_vs {K : PySem.W.Frag} {F : Hp} : ∀ {vs : List V} {ds : List D}, RpL K F vs ds → ds.all flatD = true → vs.all flatV = true
  | _, _, .nil, _ => rfl
  | _, _, .cons r t, h => by
    rw [List.all_cons, Bool.and_eq_true] at h ⊢
    exact ⟨flat_v r h.1, flat_vs t h.2⟩
theorem eqV_d {K : PySem.W.Frag} {F F2 : Hp} {u v : V} {a b : D} (ra : Rp K F u a) (rb : Rp K F2 v b) (ha : flatD a = true) (hb : flatD b = true) : eqV u v = PyData.eqv a.py b.py := by
  cases ra <;> cases rb <;> first | rfl | cases ha | cases hb
theorem inV_d {K : PySem.W.Frag} {F F2 : Hp} {v : V} {b : D} (rb : Rp K F2 v b) (hb : flatD b = true) : ∀ {vs : List V} {ds : List D}, RpL K F vs ds → ds.all flatD = true → inV v vs = ds.any fun a => PyData.eqv a.py b.py
  | _, _, .nil, _ => rfl
  | _, _, .cons r t, h => by
    rw [List.all_cons, Bool.and_eq_true] at h
    show (eqV _ v || _) = _
    rw [List.any_cons, eqV_d r rb h.1 hb]
    have := inV_d rb hb t h.2
    unfold inV at this
    rw [this]
/-- x in ys, of flat things -/
def inD (neg : Bool) : DOp := fun a b Q => match b with
  | .lst ys => (flatD a = true ∧ ys.all flatD = true) ∧ Q (.val (.bl (if neg then !(ys.any fun y => PyData.eqv y.py a.py) else ys.any fun y => PyData.eqv y.py a.py)))
  | .tup ys => (flatD a = true ∧ ys.all flatD = true) ∧ Q (.val (.bl (if neg then !(ys.any fun y => PyData.eqv y.py a.py) else ys.any fun y => PyData.eqv y.py a.py)))
  | _ => False
theorem flat_val {K : PySem.W.Frag} {S : Sx} {x : V} {a : D} (ha : Shl K S x a) (h : flatD a = true) : Rp K S.F x a := ha.val (fun _ z => by rw [z] at h; cases h)
theorem o_inB {neg : Bool} {f : Value → Value → Sem Value} (o : OpR C.X f (rIn C.X.K neg)) : OpD C f (inD neg) := by
  intro c S x y a b Q Q' ok ha hb h k
  cases b with
  | lst ys =>
    obtain ⟨⟨h1, h2⟩, q⟩ := h
    obtain ⟨p, vs, rfl, h3, r⟩ := hb.lst ok
    have ra := flat_val ha h1
    refine wO.of o ⟨p, vs, rfl, .inl (SqL.of h3), flat_v ra h1, flat_vs r h2, ?_⟩
    rw [inV_d ra h1 r h2]
    exact fin_val ok k q (.bl _)
  | tup ys =>
    obtain ⟨⟨h1, h2⟩, q⟩ := h
    obtain ⟨p, vs, rfl, _, h3, r⟩ := hb.tup ok
    have ra := flat_val ha h1
    refine wO.of o ⟨p, vs, rfl, .inr (sqt_rd h3), flat_v ra h1, flat_vs r h2, ?_⟩
    rw [inV_d ra h1 r h2]
    exact fin_val ok k q (.bl _)
  | _ => exact (show False from h).elim
theorem o_in : OpD C (compareOp .In) (inD false) := o_inB op_in_seq
theorem o_notIn : OpD C (compareOp .NotIn) (inD true) := o_inB op_notIn_seq
end
end DL
/-! More expressions: tests, displays, places, slices, built-ins -/
namespace DL
open PySem PySem.Spec PyProof.Rows L2
section
variable {C : Cd}
/-! ### tests -/
def rTst (te : TEd) : TTd := fun ρ Q => te ρ fun r ρ' => match rd ρ' r with
  | some (.bl b) => Q b ρ'
  | _ => False
theorem rd_bl {K : PySem.W.Frag} {T : Tz} {Hs : Hp} {S : Sx} {r : Rv} {v : V} {b : Bool} (ok : Ok K T S) (h : rvR K Hs S r v) (e : rd S.ρ r = some (.bl b)) : v = .bl b := (ok.rd h e).bl
theorem d_tst {e : Expr} {t : TEd} (h : PEd C e t) (he : ∀ whole, isTrue e C.X.env whole = (do let v ← whole; standAt e.pos; holding [v] (truthy v)) := by intro _; rfl) : PTd C e (rTst t) := by
  intro c S Q Q' ok g0 q k
  refine wT.of (pt_val pe_w he) ?_
  refine h c S _ _ ok g0 q fun r v F' ρ' H' q1 ok1 g1 r1 => ?_
  split at q1
  · rename_i b e1
    exact ⟨b, rd_bl ok1 r1 e1, k b F' ρ' H' q1 ok1 g1⟩
  · exact q1.elim
def rAndT (t u : TTd) : TTd := fun ρ Q => t ρ fun b ρ1 => (b = true → u ρ1 Q) ∧ (b = false → Q false ρ1)
def rOrT (t u : TTd) : TTd := fun ρ Q => t ρ fun b ρ1 => (b = true → Q true ρ1) ∧ (b = false → u ρ1 Q)
def rNotT (t : TTd) : TTd := fun ρ Q => t ρ fun b ρ1 => Q (!b) ρ1
variable {a b : Expr} {rest : List Expr} {pos : Pos} {ta tb : TTd}
theorem dw_and1 (ha : PTd C a ta) : PWd C (.BoolOp .And [a] pos) ta := fun c S Q Q' ok g0 q k => wW.of (pw_and1 pt_w) (ha c S Q Q' ok g0 q k)
theorem dw_or1 (ha : PTd C a ta) : PWd C (.BoolOp .Or [a] pos) ta := fun c S Q Q' ok g0 q k => wW.of (pw_or1 pt_w) (ha c S Q Q' ok g0 q k)
theorem dw_and (ha : PTd C a ta) (hb : PWd C (.BoolOp .And (b :: rest) pos) tb) : PWd C (.BoolOp .And (a :: b :: rest) pos) (rAndT ta tb) := by
  intro c S Q Q' ok g0 q k
  refine wW.of (pw_and pt_w pw_w) ?_
  refine ha c S _ _ ok g0 q fun t F1 ρ1 H1 q1 ok1 g1 => ?_
  cases t with
  | true => exact hb c (S.to F1 ρ1 H1) _ _ ok1 (g0.trans g1) (q1.1 rfl) fun b F2 ρ2 H2 q2 ok2 g2 => k b F2 ρ2 H2 q2 ok2 (g1.trans g2)
  | false => exact k false F1 ρ1 H1 (q1.2 rfl) ok1 g1
theorem dw_or (ha : PTd C a ta) (hb : PWd C (.BoolOp .Or (b :: rest) pos) tb) : PWd C (.BoolOp .Or (a :: b :: rest) pos) (rOrT ta tb) := by
  intro c S Q Q' ok g0 q k
  refine wW.of (pw_or pt_w pw_w) ?_
  refine ha c S _ _ ok g0 q fun t F1 ρ1 H1 q1 ok1 g1 => ?_
  cases t with
  | true => exact k true F1 ρ1 H1 (q1.1 rfl) ok1 g1
  | false => exact hb c (S.to F1 ρ1 H1) _ _ ok1 (g0.trans g1) (q1.2 rfl) fun b F2 ρ2 H2 q2 ok2 g2 => k b F2 ρ2 H2 q2 ok2 (g1.trans g2)
theorem dw_t (ha : PWd C a ta) : PTd C a ta := fun c S Q Q' ok g0 q k => by
  have h := ha c S Q Q' ok g0 q k
  exact fun pins s I => h _ pins s I
theorem d_notT (ha : PTd C a ta) : PTd C (.UnaryOp .Not a pos) (rNotT ta) := fun c S Q Q' ok g0 q k =>
  wT.of (pt_not pt_w) (ha c S _ _ ok g0 q fun b F1 ρ1 H1 q1 ok1 g1 => k (!b) F1 ρ1 H1 q1 ok1 g1)
end

/-! ### and, or, not as values; a if t else b -/
section
variable {C : Cd} {a b : Expr} {rest : List Expr} {pos : Pos} {ta tb : TEd}
def rAnd (ta tb : TEd) : TEd := fun ρ Q => ta ρ fun r ρ1 => match rd ρ1 r with
  | some (.bl c) => (c = true → tb ρ1 Q) ∧ (c = false → Q (.val (.bl false)) ρ1)
  | _ => False
def rOr (ta tb : TEd) : TEd := fun ρ Q => ta ρ fun r ρ1 => match rd ρ1 r with
  | some (.bl c) => (c = true → Q (.val (.bl true)) ρ1) ∧ (c = false → tb ρ1 Q)
  | _ => False
def rNot (ta : TEd) : TEd := fun ρ Q => ta ρ fun r ρ1 => match rd ρ1 r with
  | some (.bl c) => Q (.val (.bl (!c))) ρ1
  | _ => False
theorem d_one {op : BoolOp} (ha : PEd C a ta) : PEd C (.BoolOp op [a] pos) ta := fun c S Q Q' ok g0 q k => wE.of (pe_one pe_w) (ha c S Q Q' ok g0 q k)
theorem d_and (ha : PEd C a ta) (hb : PEd C (.BoolOp .And (b :: rest) pos) tb) : PEd C (.BoolOp .And (a :: b :: rest) pos) (rAnd ta tb) := by
  intro c S Q Q' ok g0 q k
  refine wE.of (pe_and pe_w pe_w) ?_
  refine ha c S _ _ ok g0 q fun r v F1 ρ1 H1 q1 ok1 g1 r1 => ?_
  split at q1
  · rename_i t e1
    refine ⟨t, rd_bl ok1 r1 e1, ?_⟩
    cases t with
    | true => exact hb c (S.to F1 ρ1 H1) _ _ ok1 (g0.trans g1) (q1.1 rfl) fun r v F2 ρ2 H2 q2 ok2 g2 r2 => k r v F2 ρ2 H2 q2 ok2 (g1.trans g2) (r2.start g1.dom)
    | false => exact k _ _ F1 ρ1 H1 (q1.2 rfl) ok1 g1 (.bl false)
  · exact q1.elim
theorem d_or (ha : PEd C a ta) (hb : PEd C (.BoolOp .Or (b :: rest) pos) tb) : PEd C (.BoolOp .Or (a :: b :: rest) pos) (rOr ta tb) := by
  intro c S Q Q' ok g0 q k
  refine wE.of (pe_or pe_w pe_w) ?_
  refine ha c S _ _ ok g0 q fun r v F1 ρ1 H1 q1 ok1 g1 r1 => ?_
  split at q1
  · rename_i t e1
    refine ⟨t, rd_bl ok1 r1 e1, ?_⟩
    cases t with
    | true => exact k _ _ F1 ρ1 H1 (q1.1 rfl) ok1 g1 (.bl true)
    | false => exact hb c (S.to F1 ρ1 H1) _ _ ok1 (g0.trans g1) (q1.2 rfl) fun r v F2 ρ2 H2 q2 ok2 g2 r2 => k r v F2 ρ2 H2 q2 ok2 (g1.trans g2) (r2.start g1.dom)
  · exact q1.elim
theorem d_not (ha : PEd C a ta) : PEd C (.UnaryOp .Not a pos) (rNot ta) := by
  intro c S Q Q' ok g0 q k
  refine wE.of (pe_not pe_w) ?_
  refine ha c S _ _ ok g0 q fun r v F1 ρ1 H1 q1 ok1 g1 r1 => ?_
  split at q1
  · rename_i t e1
    exact ⟨t, rd_bl ok1 r1 e1, k _ _ F1 ρ1 H1 q1 ok1 g1 (.bl _)⟩
  · exact q1.elim
def rNeg (ta : TEd) : TEd := fun ρ Q => ta ρ fun r ρ1 => match rd ρ1 r with
  | some (.int c) => Q (.val (.int (-c))) ρ1
  | _ => False
theorem d_neg (ha : PEd C a ta) : PEd C (.UnaryOp .USub a pos) (rNeg ta) := by
  intro c S Q Q' ok g0 q k
  refine wE.of (pe_un un_neg pe_w) ?_
  refine ha c S _ _ ok g0 q fun r v F1 ρ1 H1 q1 ok1 g1 r1 => ?_
  split at q1
  · rename_i t e1
    exact ⟨t, (ok1.rd r1 e1).int, k _ _ F1 ρ1 H1 q1 ok1 g1 (.int _)⟩
  · exact q1.elim
def rIf (t : TTd) (ta tb : TEd) : TEd := fun ρ Q => t ρ fun b ρ1 => (b = true → ta ρ1 Q) ∧ (b = false → tb ρ1 Q)
theorem d_ifx {cnd : Expr} {t : TTd} (hc : PTd C cnd t) (ha : PEd C a ta) (hb : PEd C b tb) : PEd C (.IfExp cnd a b pos) (rIf t ta tb) := by
  intro c S Q Q' ok g0 q k
  refine wE.of (pe_ifExp pt_w pe_w pe_w) ?_
  refine hc c S _ _ ok g0 q fun t F1 ρ1 H1 q1 ok1 g1 => ?_
  cases t with
  | true => exact ha c (S.to F1 ρ1 H1) _ _ ok1 (g0.trans g1) (q1.1 rfl) fun r v F2 ρ2 H2 q2 ok2 g2 r2 => k r v F2 ρ2 H2 q2 ok2 (g1.trans g2) (r2.start g1.dom)
  | false => exact hb c (S.to F1 ρ1 H1) _ _ ok1 (g0.trans g1) (q1.2 rfl) fun r v F2 ρ2 H2 q2 ok2 g2 r2 => k r v F2 ρ2 H2 q2 ok2 (g1.trans g2) (r2.start g1.dom)
/-- a < b <= c -/
def rChain (o1 o2 : DOp) (ta tb tc : TEd) : TEd := fun ρ Q => ta ρ fun x ρ1 => tb ρ1 fun y ρ2 => match rd ρ2 x, rd ρ2 y with
  | some da, some db => o1 da db fun r => match rd ρ2 r with
    | some (.bl k) => (k = true → tc ρ2 fun z ρ3 => match rd ρ3 y, rd ρ3 z with
        | some db, some dc => o2 db dc fun r2 => Q r2 ρ3
        | _, _ => False) ∧ (k = false → Q (.val (.bl false)) ρ2)
    | _ => False
  | _, _ => False
theorem chain_read {op1 op2 : CmpOp} {o1 o2 : DOp} {cc : Expr} {tc : TEd} (h1 : OpD C (compareOp op1) o1) (h2 : OpD C (compareOp op2) o2) (ha : PEd C a ta) (hb : PEd C b tb) (hc : PEd C cc tc)
    (c : C.Wf) (S : Sx) (Q : Rv → List Sl → Prop) (Q' : VK) (ok : Ok C.X.K C.T S) (g0 : Go C.S0 S) (h : rChain o1 o2 ta tb tc S.ρ Q)
    (k : ∀ r v F' ρ' H', Q r ρ' → Ok C.X.K C.T (S.to F' ρ' H') → Go S (S.to F' ρ' H') → rvR C.X.K S.H (S.to F' ρ' H') r v → Q' v H') :
    tChain (wO C.X (compareOp op1)) (wO C.X (compareOp op2)) (wE C.X a) (wE C.X b) (wE C.X cc) S.σ S.H Q' := by
  refine ha c S _ _ ok g0 h fun x v F1 ρ1 H1 q1 ok1 g1 r1 => ?_
  obtain ⟨F1', ok1', g1', _, gF, r1'⟩ := settle ok1 g1 r1
  refine hb c (S.to F1' ρ1 H1) _ _ ok1' (g0.trans g1') q1 fun y u F2 ρ2 H2 q2 ok2 g2 r2 => ?_
  have r1'' := r1'.go g2 rfl
  obtain ⟨F2', ok2', g2', _, gF2, r2'⟩ := settle ok2 g2 r2
  have r1s := rvR.go (K := C.X.K) (S' := S.to F2' ρ2 H2) r1' g2' rfl
  split at q2
  · rename_i da db e1 e2
    rw [← rd_stl] at e1 e2
    refine h1 c (S.to F2' ρ2 H2) v u da db _ _ ok2' (ok2'.rd r1s e1) (ok2'.rd r2' e2) q2 fun r w F3 H3 q3 ok3 g3 r3 => ?_
    have gg := (g1'.trans g2').trans g3
    split at q3
    · rename_i t e3
      refine ⟨t, rd_bl ok3 r3 e3, ?_⟩
      cases t with
      | false => exact k _ _ F3 ρ2 H3 (q3.2 rfl) ok3 gg (.bl false)
      | true =>
        refine hc c (S.to F3 ρ2 H3) _ _ ok3 (g0.trans gg) (q3.1 rfl) fun z w4 F4 ρ4 H4 q4 ok4 g4 r4 => ?_
        split at q4
        · rename_i db' dc e4 e5
          rw [← rd_stl] at e4
          have r2'' := rvR.go (K := C.X.K) (S' := S.to F4 ρ4 H4) (rvR.go (K := C.X.K) (S' := S.to F3 ρ2 H3) r2' g3 rfl) g4 rfl
          exact h2 c (S.to F4 ρ4 H4) u w4 db' dc _ _ ok4 (ok4.rd r2'' e4) (ok4.rd r4 e5) q4 fun r5 w5 F5 H5 q5 ok5 g5 r5' => k r5 w5 F5 ρ4 H5 q5 ok5 ((gg.trans g4).trans g5) (r5'.start fun a z => (gg.trans g4).dom a z)
        · exact q4.elim
    · exact q3.elim
  · exact q2.elim
theorem d_chain {op1 op2 : CmpOp} {o1 o2 : DOp} {cc : Expr} {tc : TEd} (h1 : OpD C (compareOp op1) o1) (h2 : OpD C (compareOp op2) o2) (ha : PEd C a ta) (hb : PEd C b tb) (hc : PEd C cc tc) (hm : lastMarks [op1, op2] [b, cc] = false := by with_unfolding_all rfl) :
    PEd C (.Compare a [op1, op2] [b, cc] pos) (rChain o1 o2 ta tb tc) := fun c S Q Q' ok g0 h k => wE.of (pe_chain op_w op_w pe_w pe_w pe_w hm) (chain_read h1 h2 ha hb hc c S Q Q' ok g0 h k)
/-- a value as a test -/
def tstQ (Q : Bool → List Sl → Prop) (r : Rv) (ρ : List Sl) : Prop := match rd ρ r with
  | some (.bl b) => Q b ρ
  | _ => False
theorem tstQ_ok {S : Sx} {Q : Bool → List Sl → Prop} {Q' : Bool → Hp → Prop} (k : ∀ b F' ρ' H', Q b ρ' → Ok C.X.K C.T (S.to F' ρ' H') → Go S (S.to F' ρ' H') → Q' b H') (r : Rv) (v : V) (F' : Hp) (ρ' : List Sl) (H' : Hp) (q : tstQ Q r ρ') (ok : Ok C.X.K C.T (S.to F' ρ' H')) (g : Go S (S.to F' ρ' H')) (hr : rvR C.X.K S.H (S.to F' ρ' H') r v) :
    ∃ b, v = .bl b ∧ Q' b H' := by
  unfold tstQ at q
  split at q
  · rename_i b e
    exact ⟨b, rd_bl ok hr e, k b F' ρ' H' q ok g⟩
  · exact q.elim
theorem d_tchain {op1 op2 : CmpOp} {o1 o2 : DOp} {cc : Expr} {tc : TEd} (h1 : OpD C (compareOp op1) o1) (h2 : OpD C (compareOp op2) o2) (ha : PEd C a ta) (hb : PEd C b tb) (hc : PEd C cc tc) (hm : lastMarks [op1, op2] [b, cc] = false := by with_unfolding_all rfl) :
    PTd C (.Compare a [op1, op2] [b, cc] pos) (rTst (rChain o1 o2 ta tb tc)) := fun c S Q Q' ok g0 h k => wT.of (pt_chain op_w op_w pe_w pe_w pe_w hm) (chain_read h1 h2 ha hb hc c S (tstQ Q) _ ok g0 h (tstQ_ok k))
theorem d_tcmp {op : CmpOp} {dop : DOp} (o : OpD C (compareOp op) dop) (ha : PEd C a ta) (hb : PEd C b tb) (hm : behindInMarks op b = false := by rfl) : PTd C (.Compare a [op] [b] pos) (rTst (rBin dop ta tb)) := fun c S Q Q' ok g0 h k =>
  wT.of (pt_cmpR op_w pe_w pe_w hm) (bin2 o ha hb c S (tstQ Q) _ ok g0 h (tstQ_ok k))
end

/-! ### argument lists, displays -/
section
variable {C : Cd} {e : Expr} {es : List Expr} {pos : Pos} {te : TEd} {tr t : TAd}
def rNil : TAd := fun ρ Q => Q [] ρ
/-- an argument: data or an owned slot -/
def rArg (r : Rv) (p : Prop) : Prop := match r with
  | .nob _ => False
  | _ => p
def rCons (te : TEd) (tr : TAd) : TAd := fun ρ Q => te ρ fun r ρ1 => rArg r (tr ρ1 fun rs ρ2 => Q (stl r :: rs) ρ2)
theorem da_nil : PAd C [] rNil := fun c S Q Q' ok g0 q k => wA.of pa_nil (k [] [] S.F S.ρ S.H q ok (Go.refl _) trivial rfl)
theorem rvL_cons {K : PySem.W.Frag} {Hs : Hp} {S : Sx} {r : Rv} {v : V} {rs : List Rv} {vs : List V} (nr : ∀ s, r ≠ .nob s) (h : rvR K Hs S (stl r) v) (hs : rvL K S rs vs) : rvL K S (stl r :: rs) (v :: vs) := by
  cases r with
  | val d => exact ⟨h, hs⟩
  | own i => exact ⟨h, hs⟩
  | new xs => exact ⟨h, hs⟩
  | nob s => exact absurd rfl (nr s)
theorem da_cons (he : PEd C e te) (hr : PAd C es tr) (hs : starEach (e :: es) C.X.env = (false, eval e C.X.env) :: starEach es C.X.env := by rfl) : PAd C (e :: es) (rCons te tr) := by
  intro c S Q Q' ok g0 q k
  refine wA.of (pa_cons pe_w pa_w hs) ?_
  refine he c S _ _ ok g0 q fun r v F1 ρ1 H1 q1 ok1 g1 r1 => ?_
  obtain ⟨F1', ok1', g1', _, gF, r1'⟩ := settle ok1 g1 r1
  have nr : ∀ s, r ≠ .nob s := fun s e => by rw [e] at q1; exact q1
  have q1 : tr ρ1 fun rs ρ2 => Q (stl r :: rs) ρ2 := by
    cases r with
    | nob s => exact absurd rfl (nr s)
    | _ => exact q1
  refine hr c (S.to F1' ρ1 H1) _ _ ok1' (g0.trans g1') q1 fun rs vs F2 ρ2 H2 q2 ok2 g2 r2 hl => ?_
  exact k (stl r :: rs) (v :: vs) F2 ρ2 H2 q2 ok2 (g1'.trans g2) (rvL_cons (Hs := S.H) nr (rvR.go (K := C.X.K) (S' := S.to F2 ρ2 H2) r1' g2 rfl) r2) (by simp [hl])
def rTup (t : TAd) : TEd := fun ρ Q => t ρ fun rs ρ1 => match clL ρ1 rs with
  | some (ds, ρ2) => Q (.val (.tup ds)) ρ2
  | none => False
def rLst (t : TAd) : TEd := fun ρ Q => t ρ fun rs ρ1 => match clL ρ1 rs with
  | some (ds, ρ2) => Q (.new ds) ρ2
  | none => False
theorem d_tup {x1} (h : PAd C es t) (hl : es.length ≤ 1000 := by decide) : PEd C (.Tuple es x1 pos) (rTup t) := by
  intro c S Q Q' ok g0 q k
  refine wE.of (pe_tup pa_w) ?_
  refine h c S _ _ ok g0 q fun rs vs F1 ρ1 H1 q1 ok1 g1 r1 hv => ?_
  refine ⟨Nat.le_trans (by rw [hv]; exact hl) (by decide), fun p hp => ?_⟩
  split at q1
  · rename_i ds ρ2 e
    obtain ⟨F2, ok2, g2, gF, rr⟩ := cleanL ok1 g1 r1 e
    exact fin_tup (C := C) (S := S.to F2 ρ2 H1) (Q := fun r => Q r ρ2) ok2 (fun r v F' H' qq okk gg rr => k r v F' ρ2 H' qq okk (g2.trans gg) (rr.start fun a z => g2.dom a z)) q1 rr hp
  · exact q1.elim
theorem d_lst (h : PAd C es t) (hl : es.length ≤ 1000 := by decide) : PEd C (.List es pos) (rLst t) := by
  intro c S Q Q' ok g0 q k
  refine wE.of (pe_lst pa_w) ?_
  refine h c S _ _ ok g0 q fun rs vs F1 ρ1 H1 q1 ok1 g1 r1 hv => ?_
  refine ⟨Nat.le_trans (by rw [hv]; exact hl) (by decide), fun p hp => ?_⟩
  split at q1
  · rename_i ds ρ2 e
    obtain ⟨F2, ok2, g2, gF, rr⟩ := cleanL ok1 g1 r1 e
    exact fin_new (C := C) (S := S.to F2 ρ2 H1) (Q := fun r => Q r ρ2) ok2 (fun r v F' H' qq okk gg rr => k r v F' ρ2 H' qq okk (g2.trans gg) (rr.start fun a z => g2.dom a z)) q1 rr hp
  · exact q1.elim
end

/-! ### places -/
section
variable {C : Cd} {a b : Expr} {pos p2 : Pos} {ta tb : TEd}
def ixD : DOp
  | .lst xs, .int i, Q => ∃ d, atI xs i = some d ∧ Q (.val d)
  | .tup xs, .int i, Q => ∃ d, atI xs i = some d ∧ Q (.val d)
  | .str z, .int i, Q => z.length ≤ 16777216 ∧ ∃ d, atI z.cps.toList i = some d ∧ Q (.val (.str ⟨#[d]⟩))
  | _, _, _ => False
theorem RpL.atI {K : PySem.W.Frag} {F : Hp} {vs : List V} {ds : List D} {i : Int} {d : D} (r : RpL K F vs ds) (h : L2.atI ds i = some d) : ∃ v, L2.atI vs i = some v ∧ Rp K F v d := by
  unfold L2.atI at h ⊢
  rw [r.length]
  cases e : ixN ds.length i with
  | none => rw [e] at h; cases h
  | some j =>
    rw [e] at h
    exact r.get h
theorem ix_ok (c : C.Wf) (S : Sx) (x y : V) (a b : D) (Q : Rv → Prop) (Q' : VK) (ok : Ok C.X.K C.T S) (ha : Shl C.X.K S x a) (hb : Shl C.X.K S y b) (h : ixD a b Q)
    (k : ∀ r v F' H', Q r → Ok C.X.K C.T (S.to F' S.ρ H') → Go S (S.to F' S.ρ H') → rvR C.X.K S.H (S.to F' S.ρ H') r v → Q' v H') : rIx C.X.K x y S.H Q' := by
  cases b with
  | int i =>
    cases a with
    | lst xs =>
      obtain ⟨d, e, q⟩ := h
      obtain ⟨p, vs, rfl, h1, r1⟩ := ha.lst ok
      obtain ⟨v, e1, rv⟩ := r1.atI e
      exact .inl ⟨p, vs, i, v, rfl, hb.int, SqL.of h1, e1, fin_val ok k q rv⟩
    | tup xs =>
      obtain ⟨d, e, q⟩ := h
      obtain ⟨p, vs, rfl, _, h1, r1⟩ := ha.tup ok
      obtain ⟨v, e1, rv⟩ := r1.atI e
      exact .inr (.inl ⟨p, vs, i, v, rfl, hb.int, sqt_rd h1, e1, fin_val ok k q rv⟩)
    | str z =>
      obtain ⟨h0, d, e, q⟩ := h
      exact .inr (.inr ⟨z, i, d, ha.str, hb.int, by rw [sizeLine_eq]; exact h0, e, fin_val ok k q (.str _)⟩)
    | _ => exact (show False from h).elim
  | _ => cases a <;> exact (show False from h).elim
theorem d_ix (ha : PEd C a ta) (hb : PEd C b tb) (hs : PlainIx b := by intro _ _; rfl) : PEd C (.Subscript a b pos) (rBin ixD ta tb) := by
  intro c S Q Q' ok g0 h k
  refine wE.of (pe_ix ix_seq pe_w pe_w hs) ?_
  refine ha c S _ _ ok g0 h fun x v F1 ρ1 H1 h1 ok1 g1 r1 => ?_
  obtain ⟨F1', ok1', g1', _, gF, r1'⟩ := settle ok1 g1 r1
  refine hb c (S.to F1' ρ1 H1) _ _ ok1' (g0.trans g1') h1 fun y u F2 ρ2 H2 h2 ok2 g2 r2 => ?_
  have r1'' := rvR.go (K := C.X.K) (S' := S.to F2 ρ2 H2) r1' g2 rfl
  split at h2
  · rename_i da db e1 e2
    rw [← rd_stl] at e1
    refine ix_ok c (S.to F2 ρ2 H2) v u da db _ _ ok2 (ok2.rd r1'' e1) (ok2.rd (r2.start fun a z => g1'.dom a z) e2) h2 fun r w F3 H3 h3 ok3 g3 r3 => ?_
    exact k r w F3 ρ2 H3 h3 ok3 ((g1'.trans g2).trans g3) (r3.start fun a z => (g1'.trans g2).dom a z)
  · exact h2.elim

/-! ### slices -/
abbrev TOd := List Sl → (Option Int → List Sl → Prop) → Prop
def wP (X : Cx) (e : Option Expr) : TO := fun σ H Q => ∀ (pins : List (Addr × Obj)) (s : Shared), Inv X pins σ H s → wpAny (model X.prog X.w) X.A (evalPart e X.env) (fun u s' => ∃ o H', Inv X pins σ H' s' ∧ IsPart u o ∧ Q o H') X.xe s
theorem po_w {X : Cx} {e : Option Expr} : PO X e (wP X e) := ⟨fun pins s σ H Q I h => h pins s I⟩
theorem wP.of {X : Cx} {e : Option Expr} {t : TO} {σ : L2.St} {H : Hp} {Q : Option Int → Hp → Prop} (h : PO X e t) (q : t σ H Q) : wP X e σ H Q := fun pins s I => h.run pins s σ H Q I q
def POd (C : Cd) (e : Option Expr) (t : TOd) : Prop := C.Wf → ∀ (S : Sx) (Q : Option Int → List Sl → Prop) (Q' : Option Int → Hp → Prop), Ok C.X.K C.T S → Go C.S0 S → t S.ρ Q →
  (∀ o F' ρ' H', Q o ρ' → Ok C.X.K C.T (S.to F' ρ' H') → Go S (S.to F' ρ' H') → Q' o H') → wP C.X e S.σ S.H Q'
def rNoP : TOd := fun ρ Q => Q none ρ
def rPt (t : TEd) : TOd := fun ρ Q => t ρ fun r ρ1 => match rd ρ1 r with
  | some (.int i) => Q (some i) ρ1
  | _ => False
theorem do_none : POd C none rNoP := fun c S Q Q' ok g0 h k => wP.of po_none (k none S.F S.ρ S.H h ok (Go.refl _))
theorem do_some (ha : PEd C a ta) : POd C (some a) (rPt ta) := fun c S Q Q' ok g0 h k => by
  refine wP.of (po_some pe_w) ?_
  refine ha c S _ _ ok g0 h fun r v F1 ρ1 H1 q1 ok1 g1 r1 => ?_
  split at q1
  · rename_i t e1
    exact ⟨t, (ok1.rd r1 e1).int, k _ F1 ρ1 H1 q1 ok1 g1⟩
  · exact q1.elim
/-- xs[lo:hi] -/
def cutD {α : Type} (xs : List α) (lo hi : Option Int) : List α := (xs.drop (HT.sIx xs.length 0 lo)).take (HT.sIx xs.length xs.length hi - HT.sIx xs.length 0 lo)
/-- .. where the script may stand too -/
def rdS (ρ : List Sl) : Rv → Option D
  | .own i => match ρ[i]? with
    | some (.scr ns) => some (.lst (ns.map .int))
    | o => rdo o
  | r => rd ρ r
def rSl (te : TEd) (tl th : TOd) : TEd := fun ρ Q => te ρ fun r ρ1 => tl ρ1 fun l ρ2 => th ρ2 fun u ρ3 => match rdS ρ3 r with
  | some (.lst xs) => Q (.new (cutD xs l u)) ρ3
  | some (.tup xs) => Q (.val (.tup (cutD xs l u))) ρ3
  | some (.str z) => z.length ≤ 16777216 ∧ Q (.val (.str (cutS z l u))) ρ3
  | _ => False
/-- what may be sliced, as the heap has it -/
theorem Ok.rdS {K : PySem.W.Frag} {T : Tz} {Hs : Hp} {S : Sx} {r : Rv} {v : V} {d : D} (ok : Ok K T S) (h : rvR K Hs S r v) (e : rdS S.ρ r = some d) : Shl K S v d ∨ ∃ (p : Addr) (ns : List Int), v = .ref p ∧ d = .lst (ns.map D.int) ∧ SqL K S.H p (ns.map V.int) := by
  cases r with
  | val d' => exact .inl (ok.rd h e)
  | new d' => exact .inl (ok.rd h e)
  | nob s => exact .inl (ok.rd h e)
  | own i =>
    unfold DL.rdS at e
    split at e
    · rename_i e1
      cases e1
      split at e
      · rename_i ns q
        cases e
        obtain ⟨p, h1, h2⟩ := ok.slot _ _ q
        have h : S.σ[i]? = some (some v) := h
        rw [h] at h1
        exact .inr ⟨p, ns, Option.some.inj (Option.some.inj h1), rfl, ok.gH.l h2⟩
      · exact .inl (ok.rd (r := .own i) h e)
    · rename_i n
      exact absurd rfl (n i)
theorem rdS_stl {ρ : List Sl} : ∀ r : Rv, rdS ρ (stl r) = rdS ρ r
  | .val _ => rfl
  | .own _ => rfl
  | .new _ => rfl
  | .nob _ => rfl
theorem cut_v {K : PySem.W.Frag} {F : Hp} {vs : List V} {ds : List D} (r : RpL K F vs ds) (lo hi : Option Int) : RpL K F (cutV vs lo hi) (cutD ds lo hi) := by
  unfold cutV cutD
  rw [r.length]
  exact (r.drop _).take _
theorem cut_all {α : Type} {xs : List α} {lo hi : Option Int} (h : HT.sIx xs.length 0 lo = 0 ∧ HT.sIx xs.length xs.length hi = xs.length) : cutD xs lo hi = xs := by
  unfold cutD
  rw [h.1, h.2]
  simp
theorem d_slice {e : Expr} {te : TEd} {lo hi : Option Expr} {tl th : TOd} (he : PEd C e te) (hl : POd C lo tl) (hh : POd C hi th) : PEd C (.Subscript e (.Slice lo hi none p2) pos) (rSl te tl th) := by
  intro c S Q Q' ok g0 h k
  refine wE.of (pe_slice (sl_list.or (sl_tupA.or sl_str)) pe_w po_w po_w) ?_
  refine he c S _ _ ok g0 h fun x v F1 ρ1 H1 h1 ok1 g1 r1 => ?_
  obtain ⟨F1', ok1', g1', _, gF, r1'⟩ := settle ok1 g1 r1
  refine hl c (S.to F1' ρ1 H1) _ _ ok1' (g0.trans g1') h1 fun l F2 ρ2 H2 h2 ok2 g2 => ?_
  refine hh c (S.to F2 ρ2 H2) _ _ ok2 ((g0.trans g1').trans g2) h2 fun u F3 ρ3 H3 h3 ok3 g3 => ?_
  have r3 := rvR.go (K := C.X.K) (S' := S.to F3 ρ3 H3) (rvR.go (K := C.X.K) (S' := S.to F2 ρ2 H2) r1' g2 rfl) g3 rfl
  have gg := (g1'.trans g2).trans g3
  have kk : ∀ r v F' H', Q r ρ3 → Ok C.X.K C.T ((S.to F3 ρ3 H3).to F' ρ3 H') → Go (S.to F3 ρ3 H3) ((S.to F3 ρ3 H3).to F' ρ3 H') → rvR C.X.K H3 ((S.to F3 ρ3 H3).to F' ρ3 H') r v → Q' v H' :=
    fun r v F' H' qq okk g rr => k r v F' ρ3 H' qq okk (gg.trans g) (rr.start fun a z => gg.dom a z)
  split at h3
  · rename_i xs e1
    rw [← rdS_stl] at e1
    rcases ok3.rdS r3 e1 with q | ⟨p, ns, rfl, e2, q⟩
    · obtain ⟨p, vs, rfl, h4, rr⟩ := q.lst ok3
      exact .inl ⟨p, vs, rfl, SqL.of h4, fun l' hl' => fin_new (C := C) (S := S.to F3 ρ3 H3) (Q := fun r => Q r ρ3) ok3 kk h3 (cut_v rr _ _) hl'⟩
    · cases e2
      exact .inl ⟨p, _, rfl, q, fun l' hl' => fin_new (C := C) (S := S.to F3 ρ3 H3) (Q := fun r => Q r ρ3) ok3 kk h3 (cut_v (RpL.of_ints ns) _ _) hl'⟩
  · rename_i xs e1
    rw [← rdS_stl] at e1
    rcases ok3.rdS r3 e1 with q | ⟨p, ns, rfl, e2, q⟩
    · obtain ⟨p, vs, rfl, f4, h4, rr⟩ := q.tup ok3
      refine .inr (.inl ⟨p, vs, rfl, sqt_rd h4, fun e => ?_, fun _ l' hl' => fin_tup (C := C) (S := S.to F3 ρ3 H3) (Q := fun r => Q r ρ3) ok3 kk h3 (cut_v rr _ _) hl'⟩)
      rw [rr.length] at e
      rw [cut_all e] at h3
      exact fin_val (C := C) (S := S.to F3 ρ3 H3) (Q := fun r => Q r ρ3) ok3 kk h3 (.tup f4 rr)
    · cases e2
  · rename_i z e1
    rw [← rdS_stl] at e1
    rcases ok3.rdS r3 e1 with q | ⟨p, ns, rfl, e2, q⟩
    · exact .inr (.inr ⟨z, q.str, by rw [sizeLine_eq]; exact h3.1, fin_val (C := C) (S := S.to F3 ρ3 H3) (Q := fun r => Q r ρ3) ok3 kk h3.2 (.str _)⟩)
    · cases e2
  · exact h3.elim
end

/-! ### built-ins by name -/
section
variable {C : Cd}
def ShL (K : PySem.W.Frag) (S : Sx) : List V → List D → Prop
  | [], [] => True
  | v :: vs, d :: ds => Shl K S v d ∧ ShL K S vs ds
  | _, _ => False
def rdL (ρ : List Sl) : List Rv → Option (List D)
  | [] => some []
  | r :: rs => match rd ρ r, rdL ρ rs with
    | some d, some ds => some (d :: ds)
    | _, _ => none
theorem Ok.rdL {K : PySem.W.Frag} {T : Tz} {S : Sx} (ok : Ok K T S) : ∀ {rs : List Rv} {vs : List V} {ds : List D}, rvL K S rs vs → rdL S.ρ rs = some ds → ShL K S vs ds
  | [], [], _, _, e => by cases e; trivial
  | r :: rs, v :: vs, ds, h, e => by
    have h' : rvR K S.H S r v ∧ rvL K S rs vs := by
      cases r with
      | val d => exact h
      | own i => exact h
      | new xs => exact (show False from h).elim
      | nob s => exact (show False from h).elim
    unfold DL.rdL at e
    split at e
    · rename_i d ds' e1 e2
      cases e
      exact ⟨ok.rd h'.1 e1, Ok.rdL ok h'.2 e2⟩
    · cases e
  | [], _ :: _, _, h, _ => (show False from h).elim
  | .val _ :: _, [], _, h, _ => (show False from h).elim
  | .own _ :: _, [], _, h, _ => (show False from h).elim
  | .new _ :: _, [], _, h, _ => (show False from h).elim
  | .nob _ :: _, [], _, h, _ => (show False from h).elim
abbrev DCl := List D → (Rv → Prop) → Prop
def wC (X : Cx) (f : Value) : List V → Hp → VK → Prop := fun xs H Q => ∀ (pins : List (Addr × Obj)) (s : Shared) (σ : L2.St) (us : List Value), Inv X pins σ H s → Vals xs us → wpAny (model X.prog X.w) X.A (call f us) (EP X pins σ Q) X.xe s
theorem call_w {X : Cx} {f : Value} : CallR X f (wC X f) := fun pins s σ H xs us Q I r h => h pins s σ us I r
theorem wC.of {X : Cx} {f : Value} {r : List V → Hp → VK → Prop} {xs : List V} {H : Hp} {Q : VK} (h : CallR X f r) (q : r xs H Q) : wC X f xs H Q := fun pins s σ us I rr => h pins s σ H xs us Q I rr q
def CallD (C : Cd) (f : Value) (dc : DCl) : Prop := C.Wf → ∀ (S : Sx) (vs : List V) (ds : List D) (Q : Rv → Prop) (Q' : VK), Ok C.X.K C.T S → ShL C.X.K S vs ds → dc ds Q →
  (∀ r v F' H', Q r → Ok C.X.K C.T (S.to F' S.ρ H') → Go S (S.to F' S.ρ H') → rvR C.X.K S.H (S.to F' S.ρ H') r v → Q' v H') → wC C.X f vs S.H Q'
def rCB (dc : DCl) (ta : TAd) : TEd := fun ρ Q => ta ρ fun rs ρ1 => match rdL ρ1 rs with
  | some ds => dc ds fun r => Q r ρ1
  | none => False
theorem d_callB {x : Str} {p pos : Pos} {e : Expr} {es : List Expr} {ta : TAd} {id : String} {dc : DCl} (o : CallD C (.builtin id) dc) (hg : Gl C.X x) (hm : C.X.mg x = none) (hv : bootBuiltins x = some (.builtin id)) (ha : PAd C (e :: es) ta)
    (hn : x ≠ "__name__" := by decide) (hdb : (x == ("__debug__" : Str)) = false := by decide) (he : starEach (e :: es) C.X.env = (false, eval e C.X.env) :: starEach es C.X.env := by rfl) (hpl : (backTo pos (starEach es C.X.env)).any (·.1) = false := by rfl) :
    PEd C (.Call (.Name x p) (e :: es) [] pos) (rCB dc ta) := by
  intro c S Q Q' ok g0 h k
  refine wE.of (pe_callB call_w hg hm hv pa_w hn hdb he hpl) ?_
  refine ha c S _ _ ok g0 h fun rs vs F1 ρ1 H1 q1 ok1 g1 r1 _ => ?_
  split at q1
  · rename_i ds e1
    exact o c (S.to F1 ρ1 H1) vs ds _ _ ok1 (ok1.rdL r1 e1) q1 fun r v F' H' qq okk g rr => k r v F' ρ1 H' qq okk (g1.trans g) (rr.start fun a z => g1.dom a z)
  · exact q1.elim
theorem d_callTy {x : Str} {p pos : Pos} {e : Expr} {es : List Expr} {ta : TAd} {id : String} {dc : DCl} (o : CallD C (.type id) dc) (hg : Gl C.X x) (hm : C.X.mg x = none) (hv : bootBuiltins x = some (.type id)) (ha : PAd C (e :: es) ta)
    (hn : x ≠ "__name__" := by decide) (hdb : (x == ("__debug__" : Str)) = false := by decide) (he : starEach (e :: es) C.X.env = (false, eval e C.X.env) :: starEach es C.X.env := by rfl) (hpl : (backTo pos (starEach es C.X.env)).any (·.1) = false := by rfl) :
    PEd C (.Call (.Name x p) (e :: es) [] pos) (rCB dc ta) := by
  intro c S Q Q' ok g0 h k
  refine wE.of (pe_callTy call_w hg hm hv pa_w hn hdb he hpl) ?_
  refine ha c S _ _ ok g0 h fun rs vs F1 ρ1 H1 q1 ok1 g1 r1 _ => ?_
  split at q1
  · rename_i ds e1
    exact o c (S.to F1 ρ1 H1) vs ds _ _ ok1 (ok1.rdL r1 e1) q1 fun r v F' H' qq okk g rr => k r v F' ρ1 H' qq okk (g1.trans g) (rr.start fun a z => g1.dom a z)
  · exact q1.elim
theorem ShL.one {K : PySem.W.Frag} {S : Sx} {vs : List V} {d : D} (h : ShL K S vs [d]) : ∃ v, vs = [v] ∧ Shl K S v d := by
  cases vs with
  | nil => exact (show False from h).elim
  | cons v vs =>
    cases vs with
    | nil => exact ⟨v, rfl, h.1⟩
    | cons => exact (show False from h.2).elim
theorem ShL.two {K : PySem.W.Frag} {S : Sx} {vs : List V} {d e : D} (h : ShL K S vs [d, e]) : ∃ v w, vs = [v, w] ∧ Shl K S v d ∧ Shl K S w e := by
  cases vs with
  | nil => exact (show False from h).elim
  | cons v vs =>
    obtain ⟨w, rfl, h2⟩ := ShL.one (show ShL K S vs [e] from h.2)
    exact ⟨v, w, rfl, h.1, h2⟩
/-- len -/
def lenD : DCl
  | [.lst xs], Q => Q (.val (.int xs.length))
  | [.tup xs], Q => Q (.val (.int xs.length))
  | [.str z], Q => z.length ≤ 16777216 ∧ Q (.val (.int z.length))
  | _, _ => False
theorem c_len : CallD C (.builtin "len") lenD := by
  intro c S vs ds Q Q' ok hs h k
  unfold lenD at h
  split at h
  · obtain ⟨v, rfl, hv⟩ := hs.one
    obtain ⟨p, us, rfl, h1, r⟩ := hv.lst ok
    refine wC.of call_len ⟨.ref p, us.length, rfl, .inl ⟨us, SqL.of h1, rfl⟩, ?_⟩
    rw [r.length]
    exact fin_val ok k h (.int _)
  · obtain ⟨v, rfl, hv⟩ := hs.one
    obtain ⟨p, us, rfl, _, h1, r⟩ := hv.tup ok
    refine wC.of call_len ⟨.ref p, us.length, rfl, .inr ⟨us, sqt_rd h1, rfl⟩, ?_⟩
    rw [r.length]
    exact fin_val ok k h (.int _)
  · rename_i z
    obtain ⟨v, rfl, hv⟩ := hs.one
    have e := hv.str
    subst e
    exact wC.of call_len ⟨.str z, z.length, rfl, ⟨by rw [sizeLine_eq]; exact h.1, rfl⟩, fin_val ok k h.2 (.int _)⟩
  · exact h.elim
def allD : DCl := fun ds Q => ∃ bs : List Bool, ds = [.lst (bs.map .bl)] ∧ Q (.val (.bl (bs.all id)))
def anyD : DCl := fun ds Q => ∃ bs : List Bool, ds = [.lst (bs.map .bl)] ∧ Q (.val (.bl (bs.any id)))
def sumD : DCl := fun ds Q => ∃ ns : List Int, ds = [.lst (ns.map .int)] ∧ Q (.val (.int ns.sum))
theorem c_all : CallD C (.builtin "all") allD := by
  rintro c S vs ds Q Q' ok hs ⟨bs, rfl, h⟩ k
  obtain ⟨v, rfl, hv⟩ := hs.one
  obtain ⟨p, us, rfl, h1, r⟩ := hv.lst ok
  have e := r.bls
  subst e
  exact wC.of (cr_all c.calm) ⟨p, bs, rfl, SqL.of h1, fin_val ok k h (.bl _)⟩
theorem c_any : CallD C (.builtin "any") anyD := by
  rintro c S vs ds Q Q' ok hs ⟨bs, rfl, h⟩ k
  obtain ⟨v, rfl, hv⟩ := hs.one
  obtain ⟨p, us, rfl, h1, r⟩ := hv.lst ok
  have e := r.bls
  subst e
  exact wC.of (cr_any c.calm) ⟨p, bs, rfl, SqL.of h1, fin_val ok k h (.bl _)⟩
theorem c_sum : CallD C (.builtin "sum") sumD := by
  rintro c S vs ds Q Q' ok hs ⟨bs, rfl, h⟩ k
  obtain ⟨v, rfl, hv⟩ := hs.one
  obtain ⟨p, us, rfl, h1, r⟩ := hv.lst ok
  have e := r.ints
  subst e
  exact wC.of (cr_sum c.calm) ⟨p, bs, rfl, SqL.of h1, fin_val ok k h (.int _)⟩
def max2D : DCl
  | [.int i, .int j], Q => Q (.val (.int (max i j)))
  | _, _ => False
def min2D : DCl
  | [.int i, .int j], Q => Q (.val (.int (min i j)))
  | _, _ => False
theorem c_max2 : CallD C (.builtin "max") max2D := by
  intro c S vs ds Q Q' ok hs h k
  unfold max2D at h
  split at h
  · rename_i i j
    obtain ⟨v, w, rfl, h1, h2⟩ := hs.two
    refine wC.of (call_max2 c.calm) ⟨i, j, by rw [h1.int, h2.int], ?_⟩
    have e : (if j > i then j else i) = max i j := by rw [Int.max_def]; split <;> split <;> omega
    rw [e]
    exact fin_val ok k h (.int _)
  · exact h.elim
theorem c_min2 : CallD C (.builtin "min") min2D := by
  intro c S vs ds Q Q' ok hs h k
  unfold min2D at h
  split at h
  · rename_i i j
    obtain ⟨v, w, rfl, h1, h2⟩ := hs.two
    refine wC.of (call_min2 c.calm) ⟨i, j, by rw [h1.int, h2.int], ?_⟩
    have e : (if j < i then j else i) = min i j := by rw [Int.min_def]; split <;> split <;> omega
    rw [e]
    exact fin_val ok k h (.int _)
  · exact h.elim
def tupleD : DCl
  | [.lst xs], Q => Q (.val (.tup xs))
  | [.tup xs], Q => Q (.val (.tup xs))
  | _, _ => False
theorem c_tuple : CallD C (.type "tuple") tupleD := by
  intro c S vs ds Q Q' ok hs h k
  unfold tupleD at h
  split at h
  · obtain ⟨v, rfl, hv⟩ := hs.one
    obtain ⟨p, us, rfl, h1, r⟩ := hv.lst ok
    exact wC.of call_tuple_of ⟨p, us, rfl, .inl ⟨SqL.of h1, fun l hl => fin_tup ok k h r hl⟩⟩
  · obtain ⟨v, rfl, hv⟩ := hs.one
    obtain ⟨p, us, rfl, f1, h1, r⟩ := hv.tup ok
    exact wC.of call_tuple_of ⟨p, us, rfl, .inr ⟨sqt_rd h1, fin_val ok k h (.tup f1 r)⟩⟩
  · exact h.elim
def listD : DCl
  | [.lst xs], Q => Q (.new xs)
  | [.tup xs], Q => Q (.new xs)
  | _, _ => False
theorem c_list : CallD C (.type "list") listD := by
  intro c S vs ds Q Q' ok hs h k
  unfold listD at h
  split at h
  · obtain ⟨v, rfl, hv⟩ := hs.one
    obtain ⟨p, us, rfl, h1, r⟩ := hv.lst ok
    exact wC.of call_list_of ⟨p, us, rfl, .inl (SqL.of h1), fun l hl => fin_new ok k h r hl⟩
  · obtain ⟨v, rfl, hv⟩ := hs.one
    obtain ⟨p, us, rfl, f1, h1, r⟩ := hv.tup ok
    exact wC.of call_list_of ⟨p, us, rfl, .inr (sqt_rd h1), fun l hl => fin_new ok k h r hl⟩
  · exact h.elim
def intOfD : DCl
  | [.int i], Q => Q (.val (.int i))
  | [.bl b], Q => Q (.val (.int (if b then 1 else 0)))
  | _, _ => False
theorem c_int : CallD C (.type "int") intOfD := by
  intro c S vs ds Q Q' ok hs h k
  unfold intOfD at h
  split at h
  · obtain ⟨v, rfl, hv⟩ := hs.one
    have e := hv.int
    subst e
    exact wC.of call_int1 (.inl ⟨_, rfl, fin_val ok k h (.int _)⟩)
  · obtain ⟨v, rfl, hv⟩ := hs.one
    have e := hv.bl
    subst e
    exact wC.of call_int1 (.inr ⟨_, rfl, fin_val ok k h (.int _)⟩)
  · exact h.elim
def strOfD : DCl
  | [.int i], Q => i.natAbs.log2 < 1920 ∧ Q (.val (.str (toString i)))
  | _, _ => False
theorem c_str : CallD C (.type "str") strOfD := by
  intro c S vs ds Q Q' ok hs h k
  unfold strOfD at h
  split at h
  · obtain ⟨v, rfl, hv⟩ := hs.one
    have e := hv.int
    subst e
    exact wC.of call_str_int ⟨_, rfl, h.1, fin_val ok k h.2 (.str _)⟩
  · exact h.elim

/-! ### isinstance -/
inductive Ty5 where
  | tInt | tBool | tTup | tLst | tStr
def Ty5.nm : Ty5 → String
  | .tInt => "int" | .tBool => "bool" | .tTup => "tuple" | .tLst => "list" | .tStr => "str"
def Ty5.is : Ty5 → D → Bool
  | .tInt, .int _ => true
  | .tInt, .bl _ => true
  | .tBool, .bl _ => true
  | .tTup, .tup _ => true
  | .tTup, .tux _ _ => true
  | .tLst, .lst _ => true
  | .tStr, .str _ => true
  | _, _ => false
def tyOf : D → String
  | .non => "NoneType" | .bl _ => "bool" | .int _ => "int" | .str _ => "str" | .tup _ => "tuple" | .lst _ => "list" | .tux _ _ => "tuple" | .dic _ _ => "dict" | .dik _ _ => "dict" | .obj _ _ _ => "object"
def tyVal : D → Value
  | .obj C _ _ => .ref C
  | d => .type (tyOf d)
/-- .. a frozen dict too -/
inductive TyY (K : PySem.W.Frag) (H : Hp) : V → Value → Prop where
  | x {v : V} {t : Value} (h : TyX K H v t) : TyY K H v t
  | fT {a : Addr} {o : Obj} {kvs : List (List Key × V)} (e : H a = some (.frz o (.dT kvs))) : TyY K H (.ref a) (.type "dict")
section
variable {X : Cx} {pins : List (Addr × Obj)} {σ : L2.St} {H : Hp} {s : Shared}
theorem kit_ofY {x : V} {u t : Value} (I : Inv X pins σ H s) (rx : RelV x u) (ty : TyY X.K H x t) : ∃ P : Heap → Prop, PySem.W.KitX X.K u t P ∧ P s.heap ∧ u ≠ .builtin "__main__.__loader__#opaque" := by
  cases ty with
  | x h => exact kit_of I rx h
  | @fT a ob kvs ea =>
    cases (show u = Value.ref a from rx)
    obtain ⟨_, _, _, xs, _, o, es, ep, h1, h2, _⟩ := (show ObjOk X.prog X.w H s.heap a (.frz ob (.dT kvs)) from I.hok a _ ea)
    exact ⟨_, PySem.W.kitx_dict, ⟨o, h1, h2.1⟩, fun z => nomatch z⟩
def rIsiY (K : PySem.W.Frag) : List V → Hp → VK → Prop := fun xs H Q => ∃ (x c : V) (t u : Value) (b : Bool), xs = [x, c] ∧ ClsV c u ∧ TyY K H x t ∧ PySem.W.kitOne K t u = some b ∧ Q (.bl b) H
def rIsiTY (K : PySem.W.Frag) : List V → Hp → VK → Prop := fun xs H Q => ∃ (x : V) (tp : Addr) (cs : List V) (t : Value) (us : List Value) (b : Bool), xs = [x, .ref tp] ∧ H tp = some (.tup cs) ∧ Paired ClsV cs us ∧ TyY K H x t ∧ PySem.W.kitAny K t us = some b ∧ Q (.bl b) H
theorem call_isiY : CallR X (.builtin "isinstance") (rIsiY X.K) := by
  intro pins s σ H xs us Q I r h
  obtain ⟨x, c, t, u, b, rfl, k, ty, e, q⟩ := h
  obtain ⟨u1, u2, rfl, r1, r2⟩ := vals2 r
  have e2 := k.eq r2
  subst e2
  obtain ⟨P, Z, p, hx⟩ := kit_ofY I r1 ty
  exact PySem.W.kia_one Z I.kIn p e hx fun tk => ⟨.bl b, H, I.tok tk, rfl, q⟩
theorem call_isiTY : CallR X (.builtin "isinstance") (rIsiTY X.K) := by
  intro pins s σ H xs us Q I r h
  obtain ⟨x, tp, cs, t, ws, b, rfl, hT, k, ty, e, q⟩ := h
  obtain ⟨u1, u2, rfl, r1, r2⟩ := vals2 r
  cases (show u2 = Value.ref tp from r2)
  obtain ⟨P, Z, p, hx⟩ := kit_ofY I r1 ty
  obtain ⟨_, its, rv, o, h1, h2, n, h3⟩ := (show ObjOk X.prog X.w H s.heap tp (.tup cs) from I.hok tp _ hT)
  have e3 := ClsV.all k rv
  subst e3
  obtain ⟨oc, od, dt, sl⟩ := o
  simp only at h2 h3
  subst h2 h3
  exact PySem.W.kia_tup Z I.kIn p h1 e hx fun tk => ⟨.bl b, H, I.tok tk, rfl, q⟩
end
theorem is_kit (t : Ty5) (d : D) (h : ∀ C fs vs, d ≠ .obj C fs vs) : kitB (tyOf d) t.nm = some (t.is d) := by
  cases t <;> cases d <;> first | (simp only [tyOf, Ty5.nm, Ty5.is]; decide +kernel) | exact absurd rfl (h _ _ _)
theorem Shl.ty {K : PySem.W.Frag} {T : Tz} {S : Sx} {v : V} {d : D} (h : Shl K S v d) (ok : Ok K T S) : TyY K S.H v (tyVal d) := by
  cases d with
  | non => rw [h.non]; exact .x (.base .non)
  | bl b => rw [h.bl]; exact .x (.base (.bl b))
  | int b => rw [h.int]; exact .x (.base (.int b))
  | str b => rw [h.str]; exact .x (.base (.str b))
  | tup xs =>
    obtain ⟨p, vs, rfl, _, h1, _⟩ := h.tup ok
    rcases h1 with h1 | ⟨ob, h1⟩
    · exact .x (.base (.tup h1))
    · exact .x (.fTuple h1)
  | lst xs => obtain ⟨p, vs, rfl, h1, _⟩ := h.lst ok; exact .x (.base (.lst h1))
  | tux b xs =>
    have h := h.val (fun _ z => by cases z)
    cases h with
    | tux h1 => exact .x (.fTuple (ok.sub _ _ h1))
    | tuk h1 => exact .x (.base (.tup (ok.sub _ _ h1)))
  | dic ks xs =>
    have h := h.val (fun _ z => by cases z)
    cases h with
    | dic h1 => exact .fT (ok.sub _ _ h1)
  | dik ks xs =>
    have h := h.val (fun _ z => by cases z)
    cases h with
    | dik h1 => exact .x (.fDict (ok.sub _ _ h1))
  | obj C fs xs =>
    have h := h.val (fun _ z => by cases z)
    cases h with
    | obj h1 h2 h3 c _ => exact .x (.base (.ins (ok.sub _ _ h1) c.cl c.ha c.hn c.htk c.hm))
theorem Shl.kit {K : PySem.W.Frag} {T : Tz} {S : Sx} {v : V} {d : D} (h : Shl K S v d) (ok : Ok K T S) (t : Ty5) : PySem.W.kitOne K (tyVal d) (.type t.nm) = some (t.is d) := by
  by_cases hd : ∀ C fs vs, d ≠ .obj C fs vs
  · have e : tyVal d = .type (tyOf d) := by cases d <;> first | rfl | exact absurd rfl (hd _ _ _)
    rw [e]
    exact kit_ty (is_kit t d hd)
  · cases d with
    | obj C fs xs =>
      have h := h.val (fun _ z => by cases z)
      cases h with
      | obj h1 h2 h3 c _ =>
        have := c.no t.nm (by cases t <;> simp [Ty5.nm])
        rw [show tyVal (.obj C fs xs) = .ref C from rfl, this]
        cases t <;> rfl
    | _ => exact absurd (fun _ _ _ z => by cases z) hd
def rIsi (t : Ty5) (te : TEd) : TEd := fun ρ Q => te ρ fun r ρ1 => match rd ρ1 r with
  | some d => Q (.val (.bl (t.is d))) ρ1
  | none => False
theorem d_isi {e : Expr} {te : TEd} {y : Str} {p p2 pos : Pos} (t : Ty5) (hg : Gl C.X "isinstance") (hm : C.X.mg "isinstance" = none) (hgy : Gl C.X y) (hmy : C.X.mg y = none) (hvy : bootBuiltins y = some (.type t.nm)) (he : PEd C e te)
    (hny : y ≠ "__name__" := by decide) (hdy : (y == ("__debug__" : Str)) = false := by decide) (h1 : starEach (e :: [.Name y p2]) C.X.env = (false, eval e C.X.env) :: starEach [.Name y p2] C.X.env := by rfl) :
    PEd C (.Call (.Name "isinstance" p) [e, .Name y p2] [] pos) (rIsi t te) := by
  intro c S Q Q' ok g0 h k
  refine wE.of (pe_callB call_isiY hg hm (by decide +kernel) (pa_cons pe_w (pa_cons (pe_bltn (v := .ty t.nm) hgy hmy hvy rfl hny hdy) pa_nil) h1) (by decide) (by decide) h1 rfl) ?_
  refine he c S _ _ ok g0 h fun r v F1 ρ1 H1 q1 ok1 g1 r1 => ?_
  split at q1
  · rename_i d e1
    exact ⟨v, .ty t.nm, tyVal d, .type t.nm, t.is d, rfl, .ty _, (ok1.rd r1 e1).ty ok1, (ok1.rd r1 e1).kit ok1 t, k _ _ F1 ρ1 H1 q1 ok1 g1 (.bl _)⟩
  · exact q1.elim
def rIsiT (ts : List Ty5) (te : TEd) : TEd := fun ρ Q => te ρ fun r ρ1 => match rd ρ1 r with
  | some d => Q (.val (.bl (ts.any fun t => t.is d))) ρ1
  | none => False
theorem kit_any {K : PySem.W.Frag} {d : D} (hk : ∀ t : Ty5, PySem.W.kitOne K (tyVal d) (.type t.nm) = some (t.is d)) : ∀ ts : List Ty5, PySem.W.kitAny K (tyVal d) (ts.map fun t => .type t.nm) = some (ts.any fun t => t.is d)
  | [] => kitAny_nil
  | t :: ts => by
    refine kitAny_cons (hk t) (fun h => ?_) (fun h => ?_)
    · rw [List.any_cons, h, Bool.false_or]; exact kit_any hk ts
    · rw [List.any_cons, h, Bool.true_or]
theorem tys_cls : ∀ ts : List Ty5, Paired ClsV (ts.map fun t => V.ty t.nm) (ts.map fun t => Value.type t.nm)
  | [] => .nil
  | t :: ts => .cons (.ty _) (tys_cls ts)
theorem d_isiT {e : Expr} {te : TEd} {es : List Expr} {k0 : Nat} {p p2 pos : Pos} (ts : List Ty5) (hg : Gl C.X "isinstance") (hm : C.X.mg "isinstance" = none) (hT : PA C.X es (fun _ H Q => Q (ts.map fun t => V.ty t.nm) H)) (he : PEd C e te)
    (hl : ts.length ≤ 1000 := by decide) (h1 : starEach (e :: [.Tuple es k0 p2]) C.X.env = (false, eval e C.X.env) :: starEach [.Tuple es k0 p2] C.X.env := by rfl) :
    PEd C (.Call (.Name "isinstance" p) [e, .Tuple es k0 p2] [] pos) (rIsiT ts te) := by
  intro c S Q Q' ok g0 h k
  refine wE.of (pe_callB call_isiTY hg hm (by decide +kernel) (pa_cons pe_w (pa_cons (pe_tup hT) pa_nil) h1) (by decide) (by decide) h1 rfl) ?_
  refine he c S _ _ ok g0 h fun r v F1 ρ1 H1 q1 ok1 g1 r1 => ?_
  split at q1
  · rename_i d e1
    refine ⟨by rw [List.length_map]; exact Nat.le_trans hl (by decide), fun tp hp => ?_⟩
    have ok2 : Ok C.X.K C.T ((S.to F1 ρ1 H1).to F1 ρ1 (upd H1 tp (.tup (ts.map fun t => V.ty t.nm)))) := ok1.laid hp
    obtain ⟨F1', ok1', g1', _, gF, r1'⟩ := settle ok1 g1 r1
    have ok3 : Ok C.X.K C.T ((S.to F1' ρ1 H1).to F1' ρ1 (upd H1 tp (.tup (ts.map fun t => V.ty t.nm)))) := ok1'.laid hp
    have g3 : Go (S.to F1' ρ1 H1) ((S.to F1' ρ1 H1).to F1' ρ1 (upd H1 tp (.tup (ts.map fun t => V.ty t.nm)))) := Go.laid hp
    have r3 := rvR.go (K := C.X.K) (S' := (S.to F1' ρ1 H1).to F1' ρ1 (upd H1 tp (.tup (ts.map fun t => V.ty t.nm)))) r1' g3 rfl
    have e1' : rd ρ1 (stl r) = some d := by rw [rd_stl]; exact e1
    exact ⟨v, tp, _, tyVal d, _, _, rfl, upd_same, tys_cls ts, (ok3.rd r3 e1').ty ok3, kit_any ((ok3.rd r3 e1').kit ok3) ts, k _ _ F1' ρ1 _ q1 ok3 (g1'.trans g3) (.bl _)⟩
  · exact q1.elim
end
end DL
/-! Statements over data -/
namespace DL
open PySem PySem.Spec PyProof.Rows L2
structure Ed where
  nx : List Sl → Prop
  rt : Rv → List Sl → Prop
  bk : List Sl → Prop := fun _ => False
  ct : List Sl → Prop := fun _ => False
abbrev TSd := Ed → List Sl → Prop
structure Endd (C : Cd) (S : Sx) (E : Ed) (D : Ends) : Prop where
  nx : ∀ S', E.nx S'.ρ → Ok C.X.K C.T S' → Go S S' → D.nx S'.σ S'.H
  bk : ∀ S', E.bk S'.ρ → Ok C.X.K C.T S' → Go S S' → D.bk S'.σ S'.H
  ct : ∀ S', E.ct S'.ρ → Ok C.X.K C.T S' → Go S S' → D.ct S'.σ S'.H
  rt : ∀ r v S', E.rt r S'.ρ → Ok C.X.K C.T S' → Go S S' → rvR C.X.K S.H S' r v → D.rt v S'.H
theorem Endd.go {C : Cd} {S S1 : Sx} {E : Ed} {D : Ends} (h : Endd C S E D) (g : Go S S1) : Endd C S1 E D :=
  ⟨fun S' a b c => h.nx S' a b (g.trans c), fun S' a b c => h.bk S' a b (g.trans c), fun S' a b c => h.ct S' a b (g.trans c), fun r v S' a b c d => h.rt r v S' a b (g.trans c) (d.start g.dom)⟩
def PSd (C : Cd) (st : Stmt) (t : TSd) : Prop := C.Wf → ∀ (S : Sx) (E : Ed) (D : Ends), Ok C.X.K C.T S → Go C.S0 S → t E S.ρ → Endd C S E D → wS C.X st D S.σ S.H
def PSsd (C : Cd) (st : List Stmt) (t : TSd) : Prop := C.Wf → ∀ (S : Sx) (E : Ed) (D : Ends), Ok C.X.K C.T S → Go C.S0 S → t E S.ρ → Endd C S E D → wSs C.X st D S.σ S.H

section
variable {C : Cd} {st : Stmt} {rest : List Stmt} {t u : TSd} {e : Expr} {te : TEd} {pos : Pos}
def rNext : TSd := fun E ρ => E.nx ρ
def rSeq (t u : TSd) : TSd := fun E ρ => t { E with nx := u E } ρ
theorem dss_nil : PSsd C [] rNext := fun c S E D ok g0 h k => wSs.of pss_nil (k.nx S h ok (Go.refl _))
theorem dss_one (h1 : PSd C st t) : PSsd C [st] t := fun c S E D ok g0 h k => wSs.of (pss_one ps_w) (h1 c S E D ok g0 h k)
theorem dss_cons (h1 : PSd C st t) (h2 : PSsd C rest u) : PSsd C (st :: rest) (rSeq t u) := fun c S E D ok g0 h k =>
  wSs.of (pss_cons ps_w pss_w) (h1 c S { E with nx := u E } { D with nx := wSs C.X rest D } ok g0 h
    ⟨fun S' a b d => h2 c S' E D b (g0.trans d) a (k.go d), k.bk, k.ct, k.rt⟩)
theorem ds_pass : PSd C (.Pass pos) rNext := fun c S E D ok g0 h k => wS.of ps_pass (k.nx S h ok (Go.refl _))
def rBreak : TSd := fun E ρ => E.bk ρ
theorem ds_break : PSd C (.Break pos) rBreak := fun c S E D ok g0 h k => wS.of ps_break (k.bk S h ok (Go.refl _))
def rDrop (te : TEd) : TSd := fun E ρ => te ρ fun _ ρ1 => E.nx ρ1
theorem ds_expr (he : PEd C e te) (hs : swapsWith e none pos.line C.X.env = pure false := by rfl) : PSd C (.Expr e pos) (rDrop te) := fun c S E D ok g0 h k =>
  wS.of (ps_expr pe_w hs) (he c S _ _ ok g0 h fun r v F' ρ' H' q ok' g r' => k.nx (S.to F' ρ' H') q ok' g)
def rRet (te : TEd) : TSd := fun E ρ => te ρ E.rt
theorem ds_ret (he : PEd C e te) : PSd C (.Return (some e) pos) (rRet te) := fun c S E D ok g0 h k =>
  wS.of (ps_ret pe_w) (he c S _ _ ok g0 h fun r v F' ρ' H' q ok' g r' => k.rt r v (S.to F' ρ' H') q ok' g r')
def rRetN : TSd := fun E ρ => E.rt (.val .non) ρ
theorem ds_retN : PSd C (.Return none pos) rRetN := fun c S E D ok g0 h k => wS.of ps_retN (k.rt _ _ S h ok (Go.refl _) .non)
def rIfS (t : TTd) (a b : TSd) : TSd := fun E ρ => t ρ fun c ρ1 => (c = true → a E ρ1) ∧ (c = false → b E ρ1)
theorem ds_if {cnd : Expr} {a b : List Stmt} {tc : TTd} (hc : PTd C cnd tc) (ha : PSsd C a t) (hb : PSsd C b u) : PSd C (.If cnd a b pos) (rIfS tc t u) := fun c S E D ok g0 h k =>
  wS.of (ps_if pt_w pss_w pss_w) (hc c S _ _ ok g0 h fun b F' ρ' H' q ok' g => by
    cases b with
    | true => exact ha c (S.to F' ρ' H') E D ok' (g0.trans g) (q.1 rfl) (k.go g)
    | false => exact hb c (S.to F' ρ' H') E D ok' (g0.trans g) (q.2 rfl) (k.go g))
def rNever : TSd := fun _ _ => False
theorem ds_never : PSd C st rNever := fun c S E D ok g0 h k => h.elim
theorem dss_never : PSsd C rest rNever := fun c S E D ok g0 h k => h.elim
end

/-! ### a slot is stored -/
section
variable {K : PySem.W.Frag} {T : Tz} {S0 S : Sx} {i : Nat} {s : Sl} {v : V}
theorem set_at {α : Type} {l : List α} {i j : Nat} {x y : α} (h : (l.set i x)[j]? = some y) : (j = i ∧ y = x) ∨ (j ≠ i ∧ l[j]? = some y) := by
  by_cases e : j = i
  · subst e
    have hl : j < (l.set j x).length := (List.getElem?_eq_some_iff.mp h).1
    rw [List.length_set] at hl
    rw [List.getElem?_set_self hl] at h
    exact .inl ⟨rfl, (Option.some.inj h).symm⟩
  · rw [List.getElem?_set_ne (Ne.symm e)] at h
    exact .inr ⟨e, h⟩
theorem Ok.put (ok : Ok K T S) (hs : slR K S.F S.H s (some (some v))) (ho : s.owned = true → ∀ p, v = .ref p → ¬ Own S p) : Ok K T ⟨S.F, S.ρ.set i s, S.σ.set i (some v), S.H⟩ where
  sub := ok.sub
  tab := ok.tab
  len := by simpa using ok.len
  slot := fun j u h => by
    rcases set_at h with ⟨rfl, rfl⟩ | ⟨ne, h⟩
    · have hl : j < (S.ρ.set j u).length := (List.getElem?_eq_some_iff.mp h).1
      rw [List.length_set, ok.len] at hl
      rw [show (S.σ.set j (some v))[j]? = some (some v) from List.getElem?_set_self hl]
      exact hs
    · rw [show (S.σ.set i (some v))[j]? = S.σ[j]? from List.getElem?_set_ne (Ne.symm ne)]
      exact ok.slot j u h
  dis := fun j k a b p h1 h2 w1 w2 e1 e2 => by
    rcases set_at h1 with ⟨rfl, rfl⟩ | ⟨n1, h1⟩
    · rcases set_at h2 with ⟨e, _⟩ | ⟨n2, h2⟩
      · exact e.symm
      · rw [show (S.σ.set j (some v))[k]? = S.σ[k]? from List.getElem?_set_ne (Ne.symm n2)] at e2
        rcases set_at e1 with ⟨_, q⟩ | ⟨q, _⟩
        · exact absurd (show Own S p from ⟨k, b, h2, w2, e2⟩) (ho w1 p (Option.some.inj q).symm)
        · exact absurd rfl q
    · rw [show (S.σ.set i (some v))[j]? = S.σ[j]? from List.getElem?_set_ne (Ne.symm n1)] at e1
      have o1 : Own S p := ⟨j, a, h1, w1, e1⟩
      rcases set_at h2 with ⟨rfl, rfl⟩ | ⟨n2, h2⟩
      · rcases set_at e2 with ⟨_, q⟩ | ⟨q, _⟩
        · exact absurd o1 (ho w2 p (Option.some.inj q).symm)
        · exact absurd rfl q
      · rw [show (S.σ.set i (some v))[k]? = S.σ[k]? from List.getElem?_set_ne (Ne.symm n2)] at e2
        exact ok.dis j k a b p h1 h2 w1 w2 e1 e2
theorem Go.put (g : Go S0 S) (hf : s.owned = true → s.fresh = true ∧ ∀ p, v = .ref p → S0.H p = none) : Go S0 ⟨S.F, S.ρ.set i s, S.σ.set i (some v), S.H⟩ where
  g := g.g
  kp := g.kp
  nw := g.nw
  ow := fun a ⟨j, u, h1, h2, h3⟩ => by
    rcases set_at h1 with ⟨rfl, rfl⟩ | ⟨n1, h1⟩
    · rcases set_at h3 with ⟨_, q⟩ | ⟨q, _⟩
      · exact .inr ((hf h2).2 a (Option.some.inj q).symm)
      · exact absurd rfl q
    · rw [show (S.σ.set i (some v))[j]? = S.σ[j]? from List.getElem?_set_ne (Ne.symm n1)] at h3
      exact g.ow a ⟨j, u, h1, h2, h3⟩
  fr := fun a ⟨j, u, h1, h2, h4, h3⟩ => by
    rcases set_at h1 with ⟨rfl, rfl⟩ | ⟨n1, h1⟩
    · rcases set_at h3 with ⟨_, q⟩ | ⟨q, _⟩
      · exact .inr ((hf h2).2 a (Option.some.inj q).symm)
      · exact absurd rfl q
    · rw [show (S.σ.set i (some v))[j]? = S.σ[j]? from List.getElem?_set_ne (Ne.symm n1)] at h3
      exact g.fr a ⟨j, u, h1, h2, h4, h3⟩
  dom := g.dom
  pin := fun j u h1 h2 h3 => by
    rcases set_at h1 with ⟨rfl, rfl⟩ | ⟨n1, h1⟩
    · rw [(hf h2).1] at h3; cases h3
    · obtain ⟨e, q⟩ := g.pin j u h1 h2 h3
      exact ⟨by rw [← e]; exact List.getElem?_set_ne (Ne.symm n1), q⟩
/-- a result into slot i -/
def putO (i : Nat) (k : List Sl → Prop) : Option (D × List Sl) → Prop
  | some p => k (p.2.set i (.sh p.1))
  | none => False
def put (ρ : List Sl) (i : Nat) : Rv → (List Sl → Prop) → Prop
  | .val d, k => k (ρ.set i (.sh d))
  | .new xs, k => k (ρ.set i (.ow true xs))
  | .nob s, k => k (ρ.set i (s.fr true))
  | .own j, k => putO i k (cl1 ρ (.own j))
theorem own_put {a : Addr} (h : Own ⟨S.F, S.ρ.set i s, S.σ.set i (some v), S.H⟩ a) : Own S a ∨ (s.owned = true ∧ v = .ref a) := by
  obtain ⟨j, u, h1, h2, h3⟩ := h
  rcases set_at h1 with ⟨rfl, rfl⟩ | ⟨n1, h1⟩
  · rcases set_at h3 with ⟨_, q⟩ | ⟨q, _⟩
    · exact .inr ⟨h2, (Option.some.inj q).symm⟩
    · exact absurd rfl q
  · rw [show (S.σ.set i (some v))[j]? = S.σ[j]? from List.getElem?_set_ne (Ne.symm n1)] at h3
    exact .inl ⟨j, u, h1, h2, h3⟩
theorem put_ok {r : Rv} {k : List Sl → Prop} (ok : Ok K T S) (g : Go S0 S) (h : rvR K S0.H S r v) (q : put S.ρ i r k) :
    ∃ S', S'.σ = S.σ.set i (some v) ∧ S'.H = S.H ∧ k S'.ρ ∧ Ok K T S' ∧ Go S0 S' ∧ G S.F S'.F ∧ ((∀ l, r ≠ .own l) → S'.F = S.F ∧ ∀ a, Own S' a → Own S a ∨ (v = .ref a ∧ ((∃ xs, r = .new xs) ∨ ∃ s, r = .nob s))) := by
  cases r with
  | val d => exact ⟨⟨S.F, S.ρ.set i (.sh d), S.σ.set i (some v), S.H⟩, rfl, rfl, q, ok.put (i := i) (s := .sh d) ⟨v, rfl, h⟩ (fun z => by cases z), g.put (i := i) (s := .sh d) (fun z => by cases z), G.refl _, fun _ => ⟨rfl, fun a o => (own_put o).imp id fun z => by cases z.1⟩⟩
  | new xs =>
    obtain ⟨p, vs, rfl, h2, h3, h4, h5, h6⟩ := h
    exact ⟨⟨S.F, S.ρ.set i (.ow true xs), S.σ.set i (some (.ref p)), S.H⟩, rfl, rfl, q, ok.put (v := .ref p) (i := i) (s := .ow true xs) ⟨p, vs, rfl, h3, h4, h5⟩ (fun _ a (e : V.ref p = V.ref a) => by cases e; exact h6),
      g.put (v := .ref p) (i := i) (s := .ow true xs) (fun _ => ⟨rfl, fun a (e : V.ref p = V.ref a) => by cases e; exact h2⟩), G.refl _, fun _ => ⟨rfl, fun a o => (own_put o).imp id fun z => ⟨z.2, .inl ⟨xs, rfl⟩⟩⟩⟩
  | nob s =>
    obtain ⟨p, u, rfl, h2, h3, h4, h5, h7, h6⟩ := h
    exact ⟨⟨S.F, S.ρ.set i (s.fr true), S.σ.set i (some (.ref p)), S.H⟩, rfl, rfl, q, ok.put (v := .ref p) (i := i) (s := s.fr true) (slR.of rfl h3 h4 (cont_fr h5)) (fun _ a (e : V.ref p = V.ref a) => by cases e; exact h6),
      g.put (v := .ref p) (i := i) (s := s.fr true) (fun _ => ⟨fresh_fr s h7, fun a (e : V.ref p = V.ref a) => by cases e; exact h2⟩), G.refl _, fun _ => ⟨rfl, fun a o => (own_put o).imp id fun z => ⟨z.2, .inr ⟨s, rfl⟩⟩⟩⟩
  | own j =>
    have q : putO i k (cl1 S.ρ (.own j)) := q
    cases e : cl1 S.ρ (.own j) with
    | none => rw [e] at q; exact q.elim
    | some pr =>
      rw [e] at q
      obtain ⟨d, ρ'⟩ := pr
      obtain ⟨F', ok', g', gF, rr⟩ := clean ok g h e
      exact ⟨⟨F', ρ'.set i (.sh d), S.σ.set i (some v), S.H⟩, rfl, rfl, q, Ok.put (S := S.to F' ρ' S.H) ok' (i := i) (s := .sh d) ⟨v, rfl, rr⟩ (fun z => by cases z), Go.put (S := S.to F' ρ' S.H) g' (i := i) (s := .sh d) (fun z => by cases z), gF, fun n => absurd rfl (n j)⟩
end
section
variable {C : Cd} {e : Expr} {te : TEd} {pos : Pos}
def rSet (i : Nat) (te : TEd) : TSd := fun E ρ => te ρ fun r ρ1 => put ρ1 i r E.nx
theorem ds_set (i : Nat) {x : Str} {pos' : Pos} (hi : C.X.N[i]? = some x) (hx : Loc C.X.env.scope x) (he : PEd C e te) (hs : swapsWith e (some (.Name x pos')) pos.line C.X.env = pure false := by rfl) (hf : C.X.fn x = true ∨ C.X.env.scope.names.lookup x = some .local := by first | exact .inl rfl | exact .inr rfl | assumption) :
    PSd C (.Assign [.Name x pos'] e pos) (rSet i te) := fun c S E D ok g0 h k =>
  wS.of (ps_set c.nd hi hx pe_w hs hf) (he c S _ _ ok g0 h fun r v F' ρ' H' q ok' g r' => by
    obtain ⟨S', e1, e2, q', ok'', g'', _⟩ := put_ok (S := S.to F' ρ' H') ok' g r' q
    have z := k.nx S' q' ok'' g''
    rw [e1, e2] at z
    exact z)
/-- an owned slot's list is shared before it is stored elsewhere -/
def prep (ρ : List Sl) : Rv → Option (Rv × List Sl)
  | .val d => some (.val d, ρ)
  | .new xs => some (.new xs, ρ)
  | .nob s => some (.nob s, ρ)
  | .own i => (cl1 ρ (.own i)).map fun p => (.val p.1, p.2)
theorem prep_ok {K : PySem.W.Frag} {T : Tz} {Hs : Hp} {S : Sx} {v : V} {r r' : Rv} {ρ' : List Sl} (ok : Ok K T S) (h : rvR K Hs S r v) (e : prep S.ρ r = some (r', ρ')) :
    ∃ F', Ok K T (S.to F' ρ' S.H) ∧ Go S (S.to F' ρ' S.H) ∧ rvR K Hs (S.to F' ρ' S.H) r' v ∧ (∀ i, r' ≠ .own i) ∧ ((∃ d, r' = .val d) ∨ r' = r) := by
  cases r with
  | val d => cases e; exact ⟨S.F, ok, Go.refl _, h, (fun i z => by cases z), .inr rfl⟩
  | new d => cases e; exact ⟨S.F, ok, Go.refl _, h, (fun i z => by cases z), .inr rfl⟩
  | nob d => cases e; exact ⟨S.F, ok, Go.refl _, h, (fun i z => by cases z), .inr rfl⟩
  | own i =>
    have e : (cl1 S.ρ (.own i)).map (fun p => (Rv.val p.1, p.2)) = some (r', ρ') := e
    cases q : cl1 S.ρ (.own i) with
    | none => rw [q] at e; cases e
    | some pr =>
      rw [q] at e
      obtain ⟨d, ρ1⟩ := pr
      cases e
      rcases cl1_own q with ⟨xs, q2, rfl, rfl⟩ | ⟨q2, rfl⟩
      · obtain ⟨F', h1, h2, h3, h4⟩ := freeze ok q2 h
        exact ⟨F', h1, h2, h4, (fun i z => by cases z), .inl ⟨_, rfl⟩⟩
      · obtain ⟨v', h1, h2⟩ := ok.slot i _ q2
        rw [show S.σ[i]? = some (some v) from h] at h1
        rw [← Option.some.inj (Option.some.inj h1)] at h2
        exact ⟨S.F, ok, Go.refl _, h2, (fun i z => by cases z), .inl ⟨_, rfl⟩⟩
/-- a, b = e1, e2: both stored at once -/
def put2 (ρ : List Sl) (i j : Nat) (r1 r2 : Rv) (k : List Sl → Prop) : Prop := match prep ρ r1 with
  | some (r1', ρ3) => match prep ρ3 r2 with
    | some (r2', ρ4) => put ρ4 i r1' fun ρ5 => put ρ5 j r2' k
    | none => False
  | none => False
def rPar (i j : Nat) (ta tb : TEd) : TSd := fun E ρ => ta ρ fun r1 ρ1 => tb ρ1 fun r2 ρ2 => put2 ρ2 i j r1 r2 E.nx
theorem ds_par (i j : Nat) {x y : Str} {a b : Expr} {ta tb : TEd} {px py pt : Pos} {kt k2 pt2} (hi : C.X.N[i]? = some x) (hj : C.X.N[j]? = some y) (hij : i ≠ j)
    (hx : C.X.env.scope.names.lookup x = some .local) (hy : C.X.env.scope.names.lookup y = some .local) (ha : PEd C a ta) (hb : PEd C b tb)
    (hw : swappedStores [.Tuple [.Name x px, .Name y py] kt pt] (.Tuple [a, b] k2 pt2) C.X.env = pure (some [x, y]))
    (hs : swapsWithSole [.Tuple [.Name x px, .Name y py] kt pt] (.Tuple [a, b] k2 pt2) pos.line C.X.env = pure false := by rfl)
    (h1 : starEach [a, b] C.X.env = (false, eval a C.X.env) :: starEach [b] C.X.env := by rfl) (h2 : starEach [b] C.X.env = (false, eval b C.X.env) :: starEach [] C.X.env := by rfl) :
    PSd C (.Assign [.Tuple [.Name x px, .Name y py] kt pt] (.Tuple [a, b] k2 pt2) pos) (rPar i j ta tb) := fun c S E D ok g0 h k => by
  refine wS.of (ps_par c.calm c.nd hi hj hij hx hy (pa_cons pe_w (pa_cons pe_w pa_nil h2) h1) hw hs) ?_
  refine ha c S _ _ ok g0 h fun r1 v1 F1 ρ1 H1 q1 ok1 g1 rr1 => ?_
  refine hb c (S.to F1 ρ1 H1) _ _ ok1 (g0.trans g1) q1 fun r2 v2 F2 ρ2 H2 q2 ok2 g2 rr2 => ?_
  refine ⟨v1, v2, rfl, ?_⟩
  unfold put2 at q2
  split at q2
  · rename_i r1' ρ3 e1
    split at q2
    · rename_i r2' ρ4 e2
      have x1 := rvR.go (K := C.X.K) (S' := S.to F2 ρ2 H2) rr1 g2 rfl
      obtain ⟨F3, ok3, g3, y1, n1, w1⟩ := prep_ok (S := S.to F2 ρ2 H2) ok2 x1 e1
      have x2 := rvR.go (K := C.X.K) (S' := S.to F3 ρ3 H2) rr2 g3 rfl
      obtain ⟨F4, ok4, g4, y2, n2, w2⟩ := prep_ok (S := S.to F3 ρ3 H2) ok3 x2 e2
      have y1' := rvR.go (K := C.X.K) (S' := S.to F4 ρ4 H2) y1 g4 rfl
      have gg := ((g1.trans g2).trans g3).trans g4
      obtain ⟨S5, e3, e4, q5, ok5, g5, gF5, w5⟩ := put_ok (i := i) (v := v1) (S0 := S) (S := S.to F4 ρ4 H2) (k := fun ρ5 => put ρ5 j r2' E.nx) ok4 gg y1' q2
      obtain ⟨w5a, w5b⟩ := w5 n1
      have far : ∀ p, H1 p = none → v1 = .ref p → ((∃ xs, r1' = .new xs) ∨ ∃ s, r1' = .nob s) → False := fun p a2 z zz => by
        rcases w1 with ⟨d, e⟩ | e
        · subst e
          rcases zz with ⟨xs, q⟩ | ⟨s, q⟩ <;> cases q
        · rcases zz with ⟨xs, rfl⟩ | ⟨s, rfl⟩
          · subst e
            obtain ⟨p1, _, b1, _, _, b4, _⟩ := rr1
            rw [z] at b1
            cases b1
            have b4 : H1 p = some _ := b4
            rw [a2] at b4; cases b4
          · subst e
            obtain ⟨p1, _, b1, _, _, b4, _⟩ := rr1
            rw [z] at b1
            cases b1
            have b4 : H1 p = some _ := b4
            rw [a2] at b4; cases b4
      have y2' : rvR C.X.K S.H S5 r2' v2 := by
        cases r2' with
        | own l => exact absurd rfl (n2 l)
        | val d =>
          show Rp C.X.K S5.F v2 d
          rw [w5a]; exact y2
        | new ys =>
          obtain ⟨p, vs, a1, a2, a3, a4, a5, a6⟩ := y2
          refine ⟨p, vs, a1, g1.dom p a2, by rw [w5a]; exact a3, by rw [e4]; exact a4, by rw [w5a]; exact a5, fun o => ?_⟩
          rcases w5b p o with z | ⟨z, zz⟩
          · exact a6 z
          · exact far p a2 z zz
        | nob ys =>
          obtain ⟨p, vs, a1, a2, a3, a4, a5, a7, a6⟩ := y2
          refine ⟨p, vs, a1, g1.dom p a2, by rw [w5a]; exact a3, by rw [e4]; exact a4, by rw [w5a]; exact a5, a7, fun o => ?_⟩
          rcases w5b p o with z | ⟨z, zz⟩
          · exact a6 z
          · exact far p a2 z zz
      obtain ⟨S6, e5, e6, q6, ok6, g6, _⟩ := put_ok (i := j) (v := v2) (S0 := S) ok5 g5 y2' q5
      have z := k.nx S6 q6 ok6 g6
      rw [e5, e6, e3, e4] at z
      exact z
    · exact q2.elim
  · exact q2.elim
end
end DL
/-! Targets, stores, loops over data -/
namespace DL
open PySem PySem.Spec PyProof.Rows L2
/-! ### targets -/
abbrev TGd := D → List Sl → (List Sl → Prop) → Prop
abbrev TGsd := List D → List Sl → (List Sl → Prop) → Prop
def PGd (C : Cd) (tg : Expr) (g : TGd) : Prop := C.Wf → ∀ (S : Sx) (d : D) (v : V) (Q : List Sl → Prop) (Q' : L2.St → Hp → Prop), Ok C.X.K C.T S → Go C.S0 S → Rp C.X.K S.F v d → g d S.ρ Q →
  (∀ S', Q S'.ρ → Ok C.X.K C.T S' → Go S S' → Q' S'.σ S'.H) → wG C.X tg v S.σ S.H Q'
def wGs (X : Cx) (ts : List Expr) : TGs := fun vs σ H Q => ∀ (pins : List (Addr × Obj)) (s : Shared) (us : List Value), Inv X pins σ H s → Vals vs us →
  wpAny (model X.prog X.w) X.A (assignInOrder ((assignEach ts X.env).map (·.2)) us) (fun _ s' => ∃ σ' H', Inv X pins σ' H' s' ∧ Q σ' H') X.xe s
theorem pgs_w {X : Cx} {ts : List Expr} : PGs X ts (wGs X ts) := ⟨fun pins s σ H vs us Q I r h => h pins s us I r⟩
theorem wGs.of {X : Cx} {ts : List Expr} {t : TGs} {σ : L2.St} {H : Hp} {vs : List V} {Q : L2.St → Hp → Prop} (h : PGs X ts t) (q : t vs σ H Q) : wGs X ts vs σ H Q := fun pins s us I r => h.run pins s σ H vs us Q I r q
def PGsd (C : Cd) (ts : List Expr) (g : TGsd) : Prop := C.Wf → ∀ (S : Sx) (ds : List D) (vs : List V) (Q : List Sl → Prop) (Q' : L2.St → Hp → Prop), Ok C.X.K C.T S → Go C.S0 S → RpL C.X.K S.F vs ds → g ds S.ρ Q →
  (∀ S', Q S'.ρ → Ok C.X.K C.T S' → Go S S' → Q' S'.σ S'.H) → wGs C.X ts vs S.σ S.H Q'
section
variable {C : Cd} {e : Expr} {es : List Expr} {pos : Pos} {g : TGd} {gs : TGsd} {te : TEd}
def gNm (i : Nat) : TGd := fun d ρ Q => Q (ρ.set i (.sh d))
def gNl : TGsd := fun ds ρ Q => ds = [] ∧ Q ρ
def gCn (g : TGd) (gs : TGsd) : TGsd := fun ds ρ Q => match ds with
  | d :: r => g d ρ fun ρ' => gs r ρ' Q
  | [] => False
def gTp (n : Nat) (gs : TGsd) : TGd := fun d ρ Q => match d with
  | .tup ds => ds.length = n ∧ gs ds ρ Q
  | _ => False
theorem dg_name (i : Nat) {x : Str} (hi : C.X.N[i]? = some x) (hx : Loc C.X.env.scope x) (hf : C.X.fn x = true ∨ C.X.env.scope.names.lookup x = some .local := by first | exact .inl rfl | exact .inr rfl | assumption) : PGd C (.Name x pos) (gNm i) :=
  fun c S d v Q Q' ok g0 r h k => wG.of (pg_name c.nd hi hx hf) (k ⟨S.F, S.ρ.set i (.sh d), S.σ.set i (some v), S.H⟩ h (ok.put (i := i) (s := .sh d) ⟨v, rfl, r⟩ (fun z => by cases z)) (Go.put (Go.refl S) (i := i) (s := .sh d) (fun z => by cases z)))
theorem dgs_nil : PGsd C [] gNl := fun c S ds vs Q Q' ok g0 r h k => by
  obtain ⟨rfl, h⟩ := h
  cases r
  exact wGs.of pgs_nil ⟨rfl, k S h ok (Go.refl S)⟩
theorem dgs_cons (h1 : PGd C e g) (h2 : PGsd C es gs) (hs : (assignEach (e :: es) C.X.env).map (·.2) = assign e C.X.env :: (assignEach es C.X.env).map (·.2) := by rfl) : PGsd C (e :: es) (gCn g gs) := fun c S ds vs Q Q' ok g0 r h k => by
  cases ds with
  | nil => exact (show False from h).elim
  | cons d ds =>
    cases r with
    | cons r1 r2 =>
      exact wGs.of (pgs_cons pg_w pgs_w hs) ⟨_, _, rfl, h1 c S d _ _ _ ok g0 r1 h fun S' q ok' g' => h2 c S' ds _ Q Q' ok' (g0.trans g') (RpL.mono g'.g _ _ r2) q fun S2 q2 ok2 g2 => k S2 q2 ok2 (g'.trans g2)⟩
theorem dg_tup {k0 n : Nat} (h : PGsd C es gs) (hn : (assignEach es C.X.env).length = n := by rfl) (hst : (assignEach es C.X.env).findIdx? (·.1) = none := by rfl) : PGd C (.Tuple es k0 pos) (gTp n gs) := fun c S d v Q Q' ok g0 r hq k => by
  cases d with
  | tup ds =>
    cases r with
    | tup h1 r1 =>
      exact wG.of (pg_tup c.calm pgs_w hn hst) ⟨_, _, rfl, sqt_rd (Rd.sub h1 ok.sub), by rw [r1.length]; exact hq.1, h c S ds _ Q Q' ok g0 r1 hq.2 k⟩
  | _ => exact (show False from hq).elim
/-- target = e -/
def rAsgO (g : TGd) (k : List Sl → Prop) : Option (D × List Sl) → Prop
  | some p => g p.1 p.2 k
  | none => False
def rAsg (te : TEd) (g : TGd) : TSd := fun E ρ => te ρ fun r ρ1 => rAsgO g E.nx (cl1 ρ1 r)
theorem ds_asg {tg : Expr} (he : PEd C e te) (hg : PGd C tg g) (hs : swapsWithSole [tg] e pos.line C.X.env = pure false := by rfl) (hw : swappedStores [tg] e C.X.env = pure none := by rfl)
    (h1 : (assignEach [tg] C.X.env).map (·.2) = [assign tg C.X.env] := by rfl) : PSd C (.Assign [tg] e pos) (rAsg te g) := fun c S E D ok g0 h k =>
  wS.of (ps_asg pe_w pg_w hs hw h1) (he c S _ _ ok g0 h fun r v F' ρ' H' q ok' g' r' => by
    have q : rAsgO g E.nx (cl1 ρ' r) := q
    cases e1 : cl1 ρ' r with
    | none => rw [e1] at q; exact q.elim
    | some p =>
      rw [e1] at q
      obtain ⟨d, ρ2⟩ := p
      obtain ⟨F2, ok2, g2, gF, rr⟩ := clean (S0 := S) (S := S.to F' ρ' H') ok' g' r' e1
      exact hg c (S.to F2 ρ2 H') d v _ _ ok2 (g0.trans g2) rr q fun S' a b d => k.nx S' a b (g2.trans d))

/-! ### an owned slot's content changes -/
theorem Ok.write {K : PySem.W.Frag} {T : Tz} {S : Sx} {i : Nat} {s s' : Sl} {p : Addr} {u : HO} (ok : Ok K T S) (h : S.ρ[i]? = some s) (w : s.owned = true) (hp : S.σ[i]? = some (some (.ref p))) (w' : s'.owned = true) (cu : cont K S.F s' u) :
    Ok K T ⟨S.F, S.ρ.set i s', S.σ, upd S.H p u⟩ where
  sub := fun a o e => by
    obtain ⟨q, u', h1, h2, h3, h4⟩ := (ok.slot i s h).at w
    rw [hp] at h1
    cases h1
    show upd S.H p u a = some o
    rw [upd_ne (fun z => by rw [z, h2] at e; cases e)]
    exact ok.sub a o e
  tab := by
    obtain ⟨q, u', h1, h2, h3, h4⟩ := (ok.slot i s h).at w
    rw [hp] at h1
    cases h1
    have nt := cont_tbl h4
    intro t ht
    obtain ⟨ps, a1, a2, a3⟩ := ok.tab t ht
    refine ⟨ps, ?_, a2, fun pos cv hc => ?_⟩
    · show upd S.H p u t.1 = _
      rw [upd_ne (fun z => by rw [z, h3] at a1; exact nt ps (Option.some.inj a1))]
      exact a1
    · obtain ⟨cc, b1, b2⟩ := a3 pos cv hc
      refine ⟨cc, b1, ?_⟩
      show upd S.H p u cc = _
      rw [upd_ne (fun z => by
        rw [z, h3] at b2
        have b3 := Option.some.inj b2
        rw [b3] at h4
        unfold LamX.CodeO at h4
        cases s with
        | ow f xs => obtain ⟨vs, e, _⟩ := h4; cases e
        | bg f n => obtain ⟨a, b, c, e, _⟩ := h4; cases e
        | dt f xs => obtain ⟨vs, e, _⟩ := h4; cases e
        | dk f xs => obtain ⟨vs, e, _⟩ := h4; cases e
        | _ => cases w)]
      exact b2
  len := by simpa using ok.len
  slot := fun j t e => by
    obtain ⟨q, u', h1, h2, h3, h4⟩ := (ok.slot i s h).at w
    rw [hp] at h1
    cases h1
    rcases set_at e with ⟨rfl, rfl⟩ | ⟨ne, e⟩
    · exact slR.of (p := p) (u := u) hp h2 upd_same cu
    · cases w2 : t.owned with
      | false => exact (ok.slot j t e).val w2 (G.refl _)
      | true =>
        obtain ⟨q, u', b1, b2, b3, b4⟩ := (ok.slot j t e).at w2
        refine slR.of (p := q) (u := u') b1 b2 ?_ b4
        show upd S.H p u q = _
        rw [upd_ne (fun z => ne (ok.dis j i t s q e h w2 w b1 (by rw [z]; exact hp)))]
        exact b3
  dis := fun j k a b q h1 h2 w1 w2 e1 e2 => by
    rcases set_at h1 with ⟨rfl, rfl⟩ | ⟨n1, h1⟩
    · rcases set_at h2 with ⟨e, _⟩ | ⟨n2, h2⟩
      · exact e.symm
      · exact ok.dis j k s b q h h2 w w2 e1 e2
    · have x1 := ok.dis j i a s q h1 h w1 w e1
      rcases set_at h2 with ⟨e, _⟩ | ⟨n2, h2⟩
      · rw [e] at e2 ⊢; exact x1 e2
      · exact ok.dis j k a b q h1 h2 w1 w2 e1 e2
theorem Go.write {S : Sx} {i : Nat} {s s' : Sl} {p : Addr} {u : HO} (h : S.ρ[i]? = some s) (w : s.owned = true) (hp : S.σ[i]? = some (some (.ref p))) (w' : s'.owned = true) (f : s'.fresh = s.fresh) (hn : S.H p ≠ none) : Go S ⟨S.F, S.ρ.set i s', S.σ, upd S.H p u⟩ where
  g := G.refl _
  kp := fun a o e _ no => by
    show upd S.H p u a = _
    rw [upd_ne (fun z => no ⟨i, s, h, w, by rw [z]; exact hp⟩)]; exact e
  nw := fun a e => .inl e
  ow := fun a ⟨j, t, h1, h2, h3⟩ => by
    rcases set_at h1 with ⟨rfl, rfl⟩ | ⟨n1, h1⟩
    · exact .inl ⟨j, s, h, w, h3⟩
    · exact .inl ⟨j, t, h1, h2, h3⟩
  fr := fun a ⟨j, t, h1, h2, h4, h3⟩ => by
    rcases set_at h1 with ⟨rfl, rfl⟩ | ⟨n1, h1⟩
    · exact .inl ⟨j, s, h, w, by rw [← f]; exact h4, h3⟩
    · exact .inl ⟨j, t, h1, h2, h4, h3⟩
  dom := fun a e => by
    have e : upd S.H p u a = none := e
    by_cases z : a = p
    · rw [z, upd_same] at e; cases e
    · rw [upd_ne z] at e; exact e
  pin := fun j t h1 h2 h3 => by
    rcases set_at h1 with ⟨rfl, rfl⟩ | ⟨n1, h1⟩
    · exact ⟨rfl, s, h, w, by rw [← f]; exact h3⟩
    · exact ⟨rfl, t, h1, h2, h3⟩

/-! ### found[i] = e -/
def isOw : Option Sl → Bool
  | some s => s.owned
  | none => false
theorem isOw_at {K : PySem.W.Frag} {T : Tz} {S : Sx} {j : Nat} (ok : Ok K T S) (h : isOw S.ρ[j]? = true) : ∃ v, S.σ[j]? = some (some v) := by
  cases e : S.ρ[j]? with
  | none => rw [e] at h; cases h
  | some s =>
    rw [e] at h
    exact slot_some ok e fun z => by rw [z] at h; cases h
def stoO (j : Nat) (d : D) (k : List Sl → Prop) (ρ : List Sl) : Option D → Option Sl → Prop
  | some (.int i), some (.ow f xs) => ∃ m, ixN xs.length i = some m ∧ k (ρ.set j (.ow f (xs.set m d)))
  | _, _ => False
def rStoO (j : Nat) (ti : TEd) (k : List Sl → Prop) : Option (D × List Sl) → Prop
  | some p => isOw p.2[j]? = true ∧ ti p.2 fun ix ρ3 => stoO j p.1 k ρ3 (rd ρ3 ix) ρ3[j]?
  | none => False
def rSto (j : Nat) (ti te : TEd) : TSd := fun E ρ => te ρ fun r ρ1 => rStoO j ti E.nx (cl1 ρ1 r)
theorem stoO_some {j : Nat} {d : D} {k : List Sl → Prop} {ρ : List Sl} {a : Option D} {b : Option Sl} (h : stoO j d k ρ a b) : ∃ i f xs m, a = some (.int i) ∧ b = some (.ow f xs) ∧ ixN xs.length i = some m ∧ k (ρ.set j (.ow f (xs.set m d))) := by
  unfold stoO at h
  split at h
  · obtain ⟨m, h1, h2⟩ := h
    exact ⟨_, _, _, m, rfl, rfl, h1, h2⟩
  · exact h.elim
theorem ds_sto (j : Nat) {x : Str} {ie : Expr} {ti : TEd} {p0 p1 : Pos} (hN : C.X.N[j]? = some x) (hv : Vis C.X.env.scope x) (hi : PEd C ie ti) (he : PEd C e te)
    (ha : ∀ v, assign (.Subscript (.Name x p0) ie p1) C.X.env v = (do
      let ov ← holding [v] (eval (.Name x p0) C.X.env)
      let iv ← holding [v, ov] (eval ie C.X.env)
      standAt p1
      holding [v, ov, iv] (setItem ov iv v)
      release [v, ov, iv] []) := by intro _; rfl)
    (hs : swapsWithSole [.Subscript (.Name x p0) ie p1] e pos.line C.X.env = pure false := by rfl) (hw : swappedStores [.Subscript (.Name x p0) ie p1] e C.X.env = pure none := by rfl)
    (h1 : (assignEach [.Subscript (.Name x p0) ie p1] C.X.env).map (·.2) = [assign (.Subscript (.Name x p0) ie p1) C.X.env] := by rfl)
    (hd : (x == ("__debug__" : Str)) = false := by decide) (hcd : (x == ("__classdict__" : Str)) = false := by decide) :
    PSd C (.Assign [.Subscript (.Name x p0) ie p1] e pos) (rSto j ti te) := fun c S E D ok g0 h k => by
  refine wS.of (ps_asg pe_w (pg_sub (pe_var hN hv hd hcd) pe_w set_list ha) hs hw h1) ?_
  refine he c S _ _ ok g0 h fun r v F1 ρ1 H1 q1 ok1 g1 r1 => ?_
  have q1 : rStoO j ti E.nx (cl1 ρ1 r) := q1
  cases e1 : cl1 ρ1 r with
  | none => rw [e1] at q1; exact q1.elim
  | some pr =>
    rw [e1] at q1
    obtain ⟨d, ρ2⟩ := pr
    obtain ⟨F2, ok2, g2, gF, rr⟩ := clean (S0 := S) (S := S.to F1 ρ1 H1) ok1 g1 r1 e1
    have q1 : isOw ρ2[j]? = true ∧ ti ρ2 fun ix ρ3 => stoO j d E.nx ρ3 (rd ρ3 ix) ρ3[j]? := q1
    obtain ⟨q0, q1⟩ := q1
    have hσ := isOw_at ok2 q0
    obtain ⟨ov, hov⟩ := hσ
    refine ⟨ov, hov, ?_⟩
    refine hi c (S.to F2 ρ2 H1) _ _ ok2 (g0.trans g2) q1 fun ix w F3 ρ3 H3 q3 ok3 g3 r3 => ?_
    obtain ⟨i, f, xs, m, a1, a2, a3, a4⟩ := stoO_some q3
    obtain ⟨p, vs, b1, b2, b3, b4⟩ := ok3.slot j _ a2
    have b1 : S.σ[j]? = some (some (.ref p)) := b1
    rw [hov] at b1
    cases b1
    have ew : w = .int i := (ok3.rd r3 a1).int
    have rr3 : Rp C.X.K F3 v d := Rp.mono g3.g _ _ rr
    refine ⟨p, vs, i, m, rfl, ew, b3, by rw [b4.length]; exact a3, ?_⟩
    have okw : Ok C.X.K C.T ⟨F3, ρ3.set j (.ow f (xs.set m d)), S.σ, upd H3 p (.lst (vs.set m v))⟩ := Ok.write (S := S.to F3 ρ3 H3) ok3 a2 rfl hov rfl ⟨_, rfl, b4.set rr3 m⟩
    have gw : Go (S.to F3 ρ3 H3) ⟨F3, ρ3.set j (.ow f (xs.set m d)), S.σ, upd H3 p (.lst (vs.set m v))⟩ := Go.write (S := S.to F3 ρ3 H3) a2 rfl hov rfl rfl (by rw [b3]; intro z; cases z)
    exact k.nx _ a4 okw ((g2.trans g3).trans gw)

/-! ### xs.append(e), xs.insert(i, e), xs.pop(), xs.pop(i) of an owned list -/
/-- the owned slot j's list becomes .. and the result -/
def metO (j : Nat) (f : List D → List D → (List D → Rv → Prop) → Prop) (Q : Rv → List Sl → Prop) (ρ : List Sl) : Option (List D) → Option Sl → Prop
  | some ds, some (.ow b xs) => f xs ds fun ys r => Q r (ρ.set j (.ow b ys))
  | _, _ => False
def rMetO (j : Nat) (f : List D → List D → (List D → Rv → Prop) → Prop) (Q : Rv → List Sl → Prop) : Option (List D × List Sl) → Prop
  | some p => metO j f Q p.2 (some p.1) p.2[j]?
  | none => False
def isOwL : Option Sl → Bool
  | some (.ow _ _) => true
  | _ => false
theorem isOwL_at {K : PySem.W.Frag} {T : Tz} {S : Sx} {j : Nat} (ok : Ok K T S) (h : isOwL S.ρ[j]? = true) : ∃ p vs, S.σ[j]? = some (some (.ref p)) ∧ S.H p = some (.lst vs) := by
  cases e : S.ρ[j]? with
  | none => rw [e] at h; cases h
  | some s =>
    rw [e] at h
    cases s with
    | ow f xs => obtain ⟨p, vs, a1, _, a3, _⟩ := ok.slot j _ e; exact ⟨p, vs, a1, a3⟩
    | _ => cases h
def rMet (j : Nat) (f : List D → List D → (List D → Rv → Prop) → Prop) (ta : TAd) : TEd := fun ρ Q => isOwL ρ[j]? = true ∧ ta ρ fun rs ρ1 => rMetO j f Q (clL ρ1 rs)
/-- by values: the method f of lists -/
def LmD (C : Cd) (r : V → List V → Hp → VK → Prop) (f : List D → List D → (List D → Rv → Prop) → Prop) : Prop :=
  ∀ (K : PySem.W.Frag) (F H : Hp) (p : Addr) (vs ws : List V) (xs ds : List D) (Q : List D → Rv → Prop) (Q' : VK), H p = some (.lst vs) → RpL K F vs xs → RpL K F ws ds → f xs ds Q →
    (∀ ys r us v, Q ys r → RpL K F us ys → (∃ d, r = .val d ∧ Rp K F v d) → Q' v (upd H p (.lst us))) → r (.ref p) ws H Q'
theorem metO_some {j : Nat} {f : List D → List D → (List D → Rv → Prop) → Prop} {Q : Rv → List Sl → Prop} {ρ : List Sl} {a : List D} {b : Option Sl} (h : metO j f Q ρ (some a) b) : ∃ g xs, b = some (.ow g xs) ∧ f xs a fun ys r => Q r (ρ.set j (.ow g ys)) := by
  unfold metO at h
  split at h
  · rename_i ds b' xs e1
    cases e1
    exact ⟨_, _, rfl, h⟩
  · exact h.elim
/-- the end of such a call -/
theorem met_fin {r : V → List V → Hp → VK → Prop} {j : Nat} {f : List D → List D → (List D → Rv → Prop) → Prop} {rs : List Rv} {ws : List V} {Q : Rv → List Sl → Prop} {Q' : VK} {S S1 : Sx} {ov : V} (m : LmD C r f) (e0 : S1.σ = S.σ) (ok1 : Ok C.X.K C.T S1) (g1 : Go S S1)
    (hov : S.σ[j]? = some (some ov)) (r1 : rvL C.X.K S1 rs ws) (q : rMetO j f Q (clL S1.ρ rs))
    (k : ∀ r v F' ρ' H', Q r ρ' → Ok C.X.K C.T (S.to F' ρ' H') → Go S (S.to F' ρ' H') → rvR C.X.K S.H (S.to F' ρ' H') r v → Q' v H') : (∃ p, ov = .ref p ∧ ∃ vs, S1.H p = some (.lst vs)) ∧ r ov ws S1.H Q' := by
  cases e1 : clL S1.ρ rs with
  | none => rw [e1] at q; exact (show False from q).elim
  | some pr =>
    rw [e1] at q
    obtain ⟨ds, ρ2⟩ := pr
    obtain ⟨F2, ok2, g2, gF, rr⟩ := cleanL (S0 := S) ok1 g1 r1 e1
    obtain ⟨b, xs, e2, q⟩ := metO_some (show metO j f Q ρ2 (some ds) ρ2[j]? from q)
    obtain ⟨p, vs, b1, b2, b3, b4⟩ := ok2.slot j _ e2
    have b1 : S1.σ[j]? = some (some (.ref p)) := b1
    rw [e0, hov] at b1
    cases b1
    refine ⟨⟨p, rfl, vs, b3⟩, m C.X.K F2 S1.H p vs ws xs ds _ Q' b3 b4 rr q fun ys r us v h1 h2 h3 => ?_⟩
    obtain ⟨d, rfl, h3⟩ := h3
    have hov' : S1.σ[j]? = some (some (.ref p)) := by rw [e0]; exact hov
    have okw : Ok C.X.K C.T ⟨F2, ρ2.set j (.ow b ys), S1.σ, upd S1.H p (.lst us)⟩ := Ok.write (S := S1.to F2 ρ2 S1.H) ok2 e2 rfl hov' rfl ⟨_, rfl, h2⟩
    have gw : Go (S1.to F2 ρ2 S1.H) ⟨F2, ρ2.set j (.ow b ys), S1.σ, upd S1.H p (.lst us)⟩ := Go.write (S := S1.to F2 ρ2 S1.H) e2 rfl hov' rfl rfl (by rw [b3]; intro z; cases z)
    have gg := g2.trans gw
    rw [e0] at okw gg
    exact k (.val d) v F2 _ _ h1 okw gg h3
theorem d_met (j : Nat) {x name : Str} {a : Expr} {as : List Expr} {ta : TAd} {p0 apos cpos : Pos} {id : String} {r : V → List V → Hp → VK → Prop} {f : List D → List D → (List D → Rv → Prop) → Prop} (m : LmD C r f) (slot : Slot "list" name id) (hty : typeOf (.builtin id) = pure (.type "method_descriptor")) (hm : MtR C.X id r)
    (hN : C.X.N[j]? = some x) (hv : Vis C.X.env.scope x) (ha : PAd C (a :: as) ta)
    (hbase : attributeBase (.Name x p0) name C.X.env (eval (.Name x p0) C.X.env) = eval (.Name x p0) C.X.env := by rfl)
    (hfew : ((backTo cpos (starEach (a :: as) C.X.env)).all (fun x => !x.1) && (backToKw cpos (keywordEach [] C.X.env)).all (fun x => x.1.isSome)
      && decide ((a :: as).length + ([] : List Keyword).length + (if ([] : List Keyword).isEmpty then 0 else 1) < 30)) = true := by rfl)
    (hline : (apos.endLine == cpos.line) = true := by rfl) (hs : starEach (a :: as) C.X.env = (false, eval a C.X.env) :: starEach as C.X.env := by rfl) (hplain : (backTo cpos (starEach as C.X.env)).any (·.1) = false := by rfl)
    (hd : (x == ("__debug__" : Str)) = false := by decide) (hcd : (x == ("__classdict__" : Str)) = false := by decide) :
    PEd C (.Call (.Attribute (.Name x p0) name apos) (a :: as) [] cpos) (rMet j f ta) := fun c S Q Q' ok g0 h k => by
  refine wE.of (pe_bm PySem.F.plainAttrs_list slot hty hm (pe_var hN hv hd hcd) pa_w hbase hfew hline hs hplain) ?_
  obtain ⟨h0, h⟩ := h
  obtain ⟨p, vs, hov, hp⟩ := isOwL_at ok h0
  refine ⟨.ref p, hov, ?_, ?_⟩
  · exact .inl ⟨rfl, vs, SqL.of hp⟩
  · refine ha c S _ _ ok g0 h fun rs ws F1 ρ1 H1 q1 ok1 g1 r1 _ => ?_
    exact (met_fin (S := S) (S1 := S.to F1 ρ1 H1) m rfl ok1 g1 hov r1 q1 k).2
theorem d_met0 (j : Nat) {x name : Str} {p0 apos cpos : Pos} {id : String} {r : V → List V → Hp → VK → Prop} {f : List D → List D → (List D → Rv → Prop) → Prop} (m : LmD C r f) (slot : Slot "list" name id) (hty : typeOf (.builtin id) = pure (.type "method_descriptor")) (hm : MtR C.X id r)
    (hN : C.X.N[j]? = some x) (hv : Vis C.X.env.scope x)
    (hbase : attributeBase (.Name x p0) name C.X.env (eval (.Name x p0) C.X.env) = eval (.Name x p0) C.X.env := by rfl)
    (hline : (apos.endLine == cpos.line) = true := by rfl)
    (hd : (x == ("__debug__" : Str)) = false := by decide) (hcd : (x == ("__classdict__" : Str)) = false := by decide) :
    PEd C (.Call (.Attribute (.Name x p0) name apos) [] [] cpos) (rMet j f rNil) := fun c S Q Q' ok g0 h k => by
  refine wE.of (pe_bm0 PySem.F.plainAttrs_list slot hty hm (pe_var hN hv hd hcd) hbase hline) ?_
  obtain ⟨h0, h⟩ := h
  obtain ⟨p, vs, hov, hp⟩ := isOwL_at ok h0
  refine ⟨.ref p, hov, ?_, ?_⟩
  · exact .inl ⟨rfl, vs, SqL.of hp⟩
  · exact (met_fin (S := S) (S1 := S) m rfl ok (Go.refl S) hov (rs := []) (ws := []) trivial h k).2
def appF : List D → List D → (List D → Rv → Prop) → Prop
  | xs, [d], Q => xs.length < 16777216 ∧ Q (xs ++ [d]) (.val .non)
  | _, _, _ => False
theorem lm_app : LmD C rAppend appF := fun K F H p vs ws xs ds Q Q' hp r1 r2 h k => by
  unfold appF at h
  split at h
  · cases r2 with
    | cons ra rb =>
      cases rb
      exact ⟨p, vs, _, rfl, rfl, hp, by rw [r1.length, sizeLine_eq]; exact h.1, k _ _ _ _ h.2 (r1.append (.one ra)) ⟨_, rfl, .non⟩⟩
  · exact h.elim
def popF : List D → List D → (List D → Rv → Prop) → Prop
  | xs, [], Q => ∃ d, xs[xs.length - 1]? = some d ∧ Q xs.dropLast (.val d)
  | _, _, _ => False
theorem RpL.dropLast {K : PySem.W.Frag} {F : Hp} {vs : List V} {ds : List D} (r : RpL K F vs ds) : RpL K F vs.dropLast ds.dropLast := by
  rw [List.dropLast_eq_take, List.dropLast_eq_take, r.length]
  exact r.take _
theorem lm_pop : LmD C rPop popF := fun K F H p vs ws xs ds Q Q' hp r1 r2 h k => by
  unfold popF at h
  split at h
  · cases r2
    obtain ⟨d, e, q⟩ := h
    obtain ⟨v, ev, rv⟩ := r1.get e
    exact ⟨p, vs, v, rfl, rfl, hp, by rw [r1.length]; exact ev, k _ _ _ _ q r1.dropLast ⟨_, rfl, rv⟩⟩
  · exact h.elim
def popAtF : List D → List D → (List D → Rv → Prop) → Prop
  | xs, [.int i], Q => (0 ≤ i ∧ i < 2 ^ 62) ∧ ∃ d, xs[i.toNat]? = some d ∧ Q (xs.eraseIdx i.toNat) (.val d)
  | _, _, _ => False
theorem lm_popAt : LmD C rPopAt popAtF := fun K F H p vs ws xs ds Q Q' hp r1 r2 h k => by
  unfold popAtF at h
  split at h
  · rename_i i
    cases r2 with
    | cons ra rb =>
      cases rb
      cases ra
      obtain ⟨⟨h0, h1⟩, d, e, q⟩ := h
      obtain ⟨v, ev, rv⟩ := r1.get e
      have hl : i.toNat < vs.length := (List.getElem?_eq_some_iff.mp ev).1
      exact ⟨p, vs, i, i.toNat, v, rfl, rfl, hp, by omega, by omega, seqIndex_of h0 (by omega), ev, k _ _ _ _ q (r1.eraseIdx _) ⟨_, rfl, rv⟩⟩
  · exact h.elim
/-- xs.insert(i, e) -/
def insF : List D → List D → (List D → Rv → Prop) → Prop
  | xs, [.int i, d], Q => (xs.length < 16777216 ∧ 0 ≤ i ∧ i < 2 ^ 63) ∧ Q (xs.take i.toNat ++ [d] ++ xs.drop i.toNat) (.val .non)
  | _, _, _ => False
def rIns : V → List V → Hp → VK → Prop := fun x vs H Q => ∃ (l : Addr) (xs : List V) (i : Int) (y : V), x = .ref l ∧ vs = [.int i, y] ∧ H l = some (.lst xs) ∧ xs.length < sizeLine ∧ 0 ≤ i ∧ i < 2 ^ 63 ∧
    Q .non (upd H l (.lst (xs.take i.toNat ++ [y] ++ xs.drop i.toNat)))
theorem lm_ins : LmD C rIns insF := fun K F H p vs ws xs ds Q Q' hp r1 r2 h k => by
  unfold insF at h
  split at h
  · rename_i i d
    cases r2 with
    | cons ra rb =>
      cases ra
      cases rb with
      | cons ra rb =>
        cases rb
        obtain ⟨⟨h0, h1, h2⟩, q⟩ := h
        exact ⟨p, vs, i, _, rfl, rfl, hp, by rw [r1.length, sizeLine_eq]; exact h0, h1, h2, k _ _ _ _ q (((r1.take _).append (.one ra)).append (r1.drop _)) ⟨_, rfl, .non⟩⟩
  · exact h.elim
theorem d_app (j : Nat) {x : Str} {a : Expr} {ta : TEd} {p0 apos cpos : Pos} (hN : C.X.N[j]? = some x) (hv : Vis C.X.env.scope x) (ha : PEd C a ta)
    (hbase : attributeBase (.Name x p0) "append" C.X.env (eval (.Name x p0) C.X.env) = eval (.Name x p0) C.X.env := by rfl)
    (hfew : ((backTo cpos (starEach [a] C.X.env)).all (fun x => !x.1) && (backToKw cpos (keywordEach [] C.X.env)).all (fun x => x.1.isSome)
      && decide (([a] : List Expr).length + ([] : List Keyword).length + (if ([] : List Keyword).isEmpty then 0 else 1) < 30)) = true := by rfl)
    (hline : (apos.endLine == cpos.line) = true := by rfl) (hs : starEach [a] C.X.env = (false, eval a C.X.env) :: starEach [] C.X.env := by rfl) (hplain : (backTo cpos (starEach [] C.X.env)).any (·.1) = false := by rfl)
    (hd : (x == ("__debug__" : Str)) = false := by decide) (hcd : (x == ("__classdict__" : Str)) = false := by decide) :
    PEd C (.Call (.Attribute (.Name x p0) "append" apos) [a] [] cpos) (rMet j appF (rCons ta rNil)) :=
  d_met j lm_app PySem.F.slot_list_append PySem.F.type_list_append mt_append hN hv (da_cons ha da_nil hs) hbase hfew hline hs hplain hd hcd
end
end DL
/-! What is walked; for, while, comprehensions -/
namespace DL
open PySem PySem.Spec PyProof.Rows L2
/-- n items, the i-th one as it says -/
structure Its where
  n : Nat
  it : Nat → D → Prop
abbrev TId := List Sl → (Its → List Sl → Prop) → Prop
/-- the iterator J walks its, in all later states of S0 -/
def ItOk (K : PySem.W.Frag) (T : Tz) (its : Its) (J : It) (S0 : Sx) : Prop := ∀ S, Ok K T S → G S0.F S.F → (∀ i, i < its.n → J.go i S.H) ∧ J.stop its.n S.H ∧
  ∀ i x H', i < its.n → J.yld i S.H x H' → ∃ F' d, its.it i d ∧ Ok K T (S.to F' S.ρ H') ∧ Go S (S.to F' S.ρ H') ∧ Rp K F' x d
def wI (X : Cx) (tg iter : Expr) : TI := fun σ H R => ∀ (pins : List (Addr × Obj)) (s : Shared), Inv X pins σ H s →
  wpAny (model X.prog X.w) X.A (eval iter X.env) (fun v s1 => wpAny (model X.prog X.w) X.A (pyIter v) (PIE X pins σ tg R) X.xe s1) X.xe s
theorem pi_w {X : Cx} {tg iter : Expr} : PI X tg iter (wI X tg iter) := ⟨fun pins s σ H R I h => h pins s I⟩
theorem wI.of {X : Cx} {tg iter : Expr} {t : TI} {σ : L2.St} {H : Hp} {R : It → Hp → Prop} (h : PI X tg iter t) (q : t σ H R) : wI X tg iter σ H R := fun pins s I => h.run pins s σ H R I q
def PId (C : Cd) (tg iter : Expr) (t : TId) : Prop := C.Wf → ∀ (S : Sx) (Q : Its → List Sl → Prop) (R' : It → Hp → Prop), Ok C.X.K C.T S → Go C.S0 S → t S.ρ Q →
  (∀ its J F' ρ' H', Q its ρ' → Ok C.X.K C.T (S.to F' ρ' H') → Go S (S.to F' ρ' H') → ItOk C.X.K C.T its J (S.to F' ρ' H') → R' J H') → wI C.X tg iter S.σ S.H R'
section
variable {C : Cd} {tg iter e : Expr} {te : TEd} {pos : Pos}
/-- the items of a list -/
def itL (ds : List D) : Its := ⟨ds.length, fun i d => ds[i]? = some d⟩
def itR (lo : Int) (n : Nat) : Its := ⟨n, fun i d => d = .int (lo + i)⟩
def itE (ds : List D) : Its := ⟨ds.length, fun i d => ∃ x, ds[i]? = some x ∧ d = .tup [.int i, x]⟩
def itZ (xs ys : List D) : Its := ⟨min xs.length ys.length, fun i d => ∃ x y, xs[i]? = some x ∧ ys[i]? = some y ∧ d = .tup [x, y]⟩
def seqO (f : List D → Its) (Q : Its → List Sl → Prop) : Option (D × List Sl) → Prop
  | some (.lst ds, ρ) => Q (f ds) ρ
  | some (.tup ds, ρ) => Q (f ds) ρ
  | _ => False
/-- a list or a tuple, walked -/
def iSeq (te : TEd) : TId := fun ρ Q => te ρ fun r ρ1 => seqO itL Q (cl1 ρ1 r)
theorem seqO_some {f : List D → Its} {Q : Its → List Sl → Prop} {o : Option (D × List Sl)} (h : seqO f Q o) : ∃ ds ρ, (o = some (.lst ds, ρ) ∨ o = some (.tup ds, ρ)) ∧ Q (f ds) ρ := by
  unfold seqO at h
  split at h
  · exact ⟨_, _, .inl rfl, h⟩
  · exact ⟨_, _, .inr rfl, h⟩
  · exact h.elim
theorem it_list {K : PySem.W.Frag} {T : Tz} {S : Sx} {a : Addr} {vs : List V} {ds : List D} (h : S.F a = some (.lst vs)) (r : RpL K S.F vs ds) : ItOk K T (itL ds) (Itl K a) S := fun S' ok g => by
  have h' : S'.H a = some (.lst vs) := ok.sub _ _ (g _ _ h (fun _ z => by cases z))
  have r' := RpL.mono g _ _ r
  have w := walk_list (K := K) (a := a) (xs := vs)
  have q : SqL K S'.H a vs := SqL.of h'
  have hl := r.length
  refine ⟨fun i hi => w.goes i _ (by rw [hl]; exact hi) q, by have := w.stops _ q; rw [hl] at this; exact this, fun i x H' hi y => ?_⟩
  obtain ⟨e, hx⟩ := w.yields i _ x H' (by rw [hl]; exact hi) q y
  obtain ⟨d, hd, rd⟩ := r'.getV hx
  rw [e]
  exact ⟨S'.F, d, hd, ok, Go.refl _, rd⟩
theorem it_tup {K : PySem.W.Frag} {T : Tz} {S : Sx} {a : Addr} {vs : List V} {ds : List D} (h : Rd S.F a (.tup vs)) (r : RpL K S.F vs ds) : ItOk K T (itL ds) (Itt K a) S := fun S' ok g => by
  have h' : Rd S'.H a (.tup vs) := Rd.sub (g.rd (fun _ z => by cases z) h) ok.sub
  have r' := RpL.mono g _ _ r
  have w := walk_tup (K := K) (a := a) (xs := vs)
  have q : SqT K S'.H a vs := sqt_rd h'
  have hl := r.length
  refine ⟨fun i hi => w.goes i _ (by rw [hl]; exact hi) q, by have := w.stops _ q; rw [hl] at this; exact this, fun i x H' hi y => ?_⟩
  obtain ⟨e, hx⟩ := w.yields i _ x H' (by rw [hl]; exact hi) q y
  obtain ⟨d, hd, rd⟩ := r'.getV hx
  rw [e]
  exact ⟨S'.F, d, hd, ok, Go.refl _, rd⟩
/-- over a list: iter is told to give one -/
theorem di_list (he : PEd C iter te) (hl : ∀ ρ Q, iSeq te ρ Q → True) : True := trivial
/-- two ways to walk, by the value -/
theorem pi_or {X : Cx} {w1 w2 : TI} (h1 : PI X tg iter w1) (h2 : PI X tg iter w2) : PI X tg iter (fun σ H R => w1 σ H R ∨ w2 σ H R) := ⟨fun pins s σ H R I h => h.elim (h1.run pins s σ H R I) (h2.run pins s σ H R I)⟩
/-- a list or a tuple of any value -/
def iAny (K : PySem.W.Frag) (tl : TE) : TI := fun σ H R => tl σ H fun x H1 => ∃ a, x = .ref a ∧ (((∃ xs, SqL K H1 a xs) ∧ R (Itl K a) H1) ∨ ((∃ xs, SqT K H1 a xs) ∧ R (Itt K a) H1))
theorem pi_any {X : Cx} {l : Expr} {tl : TE} (hl : PE X l tl) : PI X tg l (iAny X.K tl) := by
  refine ⟨fun pins s σ H R I h => ?_⟩
  refine thn (hl.run pins s σ H _ I h) fun v s1 ⟨x, H1, I1, r1, q1⟩ => ?_
  obtain ⟨a, e, q⟩ := q1
  subst e
  cases r1
  rcases q with ⟨⟨xs, hq⟩, q⟩ | ⟨⟨xs, hq⟩, q⟩
  · obtain ⟨its, rv, p, hz⟩ := I1.list hq
    refine wpAny_pyIter_list p.isList ?_
    refine ⟨s1.heap.objs.size, [s1.heap.objs.size], _, _, H1, rfl, I1.kept (t' := s1.toks) fun b o e => Heap.get?_push_of_some _ e, turn_list a _, ⟨_, Heap.get?_push_size _ rfl, rfl, rfl⟩, fun b hb => ?_, q⟩
    have e : b = s1.heap.objs.size := by simpa using hb
    subst e
    exact I1.fpOk (Nat.le_refl _) (I1.hok.fresh (Nat.le_refl _))
  · obtain ⟨its, rv, p, hz⟩ := I1.tuple hq
    refine wpAny_pyIter_tuple (show s1.heap.IsTuple a its.toArray from p) ?_
    refine ⟨s1.heap.objs.size, [s1.heap.objs.size], _, _, H1, rfl, I1.kept (t' := s1.toks) fun b o e => Heap.get?_push_of_some _ e, turn_tuple a _, ⟨_, Heap.get?_push_size _ rfl, rfl, rfl⟩, fun b hb => ?_, q⟩
    have e : b = s1.heap.objs.size := by simpa using hb
    subst e
    exact I1.fpOk (Nat.le_refl _) (I1.hok.fresh (Nat.le_refl _))
theorem di_seq (he : PEd C iter te) : PId C tg iter (iSeq te) := fun c S Q R' ok g0 h k => by
  refine wI.of (pi_any pe_w) ?_
  refine he c S _ _ ok g0 h fun r v F1 ρ1 H1 q1 ok1 g1 r1 => ?_
  obtain ⟨ds, ρ2, e, q⟩ := seqO_some (show seqO itL Q (cl1 ρ1 r) from q1)
  rcases e with e | e
  · obtain ⟨F2, ok2, g2, gF, rr⟩ := clean (S0 := S) (S := S.to F1 ρ1 H1) ok1 g1 r1 e
    cases rr with
    | lst h1 r2 =>
      exact ⟨_, rfl, .inl ⟨⟨_, SqL.of (ok2.sub _ _ h1)⟩, k _ _ F2 ρ2 H1 q ok2 g2 (it_list (S := S.to F2 ρ2 H1) h1 r2)⟩⟩
  · obtain ⟨F2, ok2, g2, gF, rr⟩ := clean (S0 := S) (S := S.to F1 ρ1 H1) ok1 g1 r1 e
    cases rr with
    | tup h1 r2 =>
      exact ⟨_, rfl, .inr ⟨⟨_, sqt_rd (Rd.sub h1 ok2.sub)⟩, k _ _ F2 ρ2 H1 q ok2 g2 (it_tup (S := S.to F2 ρ2 H1) h1 r2)⟩⟩
/-- range -/
def rngO (Q : Its → List Sl → Prop) (ρ : List Sl) : Option (List D) → Prop
  | some [.int j] => (-(2 ^ 62) ≤ j ∧ j < 2 ^ 62) ∧ Q (itR 0 j.toNat) ρ
  | some [.int i, .int j] => (-(2 ^ 62) ≤ i ∧ i < 2 ^ 62 ∧ -(2 ^ 62) ≤ j ∧ j < 2 ^ 62) ∧ Q (itR i (j - i).toNat) ρ
  | _ => False
def iRng (ta : TAd) : TId := fun ρ Q => ta ρ fun rs ρ1 => rngO Q ρ1 (rdL ρ1 rs)
theorem it_rng {K : PySem.W.Frag} {T : Tz} {S : Sx} {lo : Int} {n : Nat} : ItOk K T (itR lo n) (Itr lo n) S := fun S' ok g => by
  have w := walk_range (lo := lo) (n := n)
  refine ⟨fun i hi => w.goes i _ hi trivial, w.stops _ trivial, fun i x H' hi y => ?_⟩
  obtain ⟨e, hx⟩ := w.yields i _ x H' hi trivial y
  rw [e, hx]
  exact ⟨S'.F, _, rfl, ok, Go.refl _, .int _⟩
theorem di_rng1 {a : Expr} {ta : TEd} {p : Pos} (hg : Gl C.X "range") (hm : C.X.mg "range" = none) (ha : PEd C a ta) (hs : starEach [a] C.X.env = [(false, eval a C.X.env)] := by rfl) : PId C tg (.Call (.Name "range" p) [a] [] pos) (iRng (rCons ta rNil)) := fun c S Q R' ok g0 h k => by
  refine wI.of (pi_range1 hg hm pa_w hs) ?_
  refine (da_cons ha da_nil (by rw [hs]; rfl)) c S _ _ ok g0 h fun rs vs F1 ρ1 H1 q1 ok1 g1 r1 hl => ?_
  have q1 : rngO Q ρ1 (rdL ρ1 rs) := q1
  unfold rngO at q1
  split at q1
  · rename_i j e1
    obtain ⟨v, rfl, hv⟩ := (ok1.rdL r1 e1).one
    exact ⟨j, by rw [hv.int], q1.1.1, q1.1.2, k _ _ F1 ρ1 H1 q1.2 ok1 g1 it_rng⟩
  · rename_i i j e1
    obtain ⟨v, w, rfl, _, _⟩ := (ok1.rdL r1 e1).two
    cases hl
  · exact q1.elim
theorem di_rng2 {a b : Expr} {ta tb : TEd} {p : Pos} (hg : Gl C.X "range") (hm : C.X.mg "range" = none) (ha : PEd C a ta) (hb : PEd C b tb) (hs : starEach [a, b] C.X.env = [(false, eval a C.X.env), (false, eval b C.X.env)] := by rfl) (hs2 : starEach [b] C.X.env = [(false, eval b C.X.env)] := by rfl) :
    PId C tg (.Call (.Name "range" p) [a, b] [] pos) (iRng (rCons ta (rCons tb rNil))) := fun c S Q R' ok g0 h k => by
  refine wI.of (pi_range2 hg hm pa_w hs hs2) ?_
  refine (da_cons ha (da_cons hb da_nil (by rw [hs2]; rfl)) (by rw [hs, hs2])) c S _ _ ok g0 h fun rs vs F1 ρ1 H1 q1 ok1 g1 r1 hl => ?_
  have q1 : rngO Q ρ1 (rdL ρ1 rs) := q1
  unfold rngO at q1
  split at q1
  · rename_i j e1
    obtain ⟨v, rfl, hv⟩ := (ok1.rdL r1 e1).one
    cases hl
  · rename_i i j e1
    obtain ⟨v, w, rfl, hv, hw⟩ := (ok1.rdL r1 e1).two
    exact ⟨i, j, by rw [hv.int, hw.int], q1.1, k _ _ F1 ρ1 H1 q1.2 ok1 g1 it_rng⟩
  · exact q1.elim

/-! ### for -/
def rFor (ti : TId) (g : TGd) (tb : TSd) : TSd := fun E ρ => ti ρ fun its ρ1 => ∃ I : Nat → List Sl → Prop, I 0 ρ1 ∧
  (∀ i d ρ', i < its.n → its.it i d → I i ρ' → g d ρ' fun ρ2 => tb { E with nx := I (i + 1), ct := I (i + 1), bk := E.nx } ρ2) ∧ ∀ ρ', I its.n ρ' → E.nx ρ'
theorem ds_for {ti : TId} {g : TGd} {tb : TSd} {body : List Stmt} (hi : PId C tg iter ti) (hg : PGd C tg g) (hb : PSsd C body tb) (hs : ∀ x, foldedSetIterable iter C.X.env x = pure x := by intro _; rfl) : PSd C (.For tg iter body [] pos) (rFor ti g tb) := fun c S E D ok g0 h k => by
  refine wS.of (ps_for c.po c.calm pi_w pg_w pss_w hs) ?_
  refine hi c S _ _ ok g0 h fun its J F1 ρ1 H1 ⟨I, i0, step, fin⟩ ok1 g1 it => ?_
  refine ⟨fun i m σ H => ∃ S', S'.σ = σ ∧ S'.H = H ∧ m = its.n - i ∧ i ≤ its.n ∧ I i S'.ρ ∧ Ok C.X.K C.T S' ∧ Go (S.to F1 ρ1 H1) S', ⟨its.n, S.to F1 ρ1 H1, rfl, rfl, rfl, Nat.zero_le _, i0, ok1, Go.refl _⟩, ?_⟩
  rintro i m σ H ⟨S', rfl, rfl, rfl, hi, hI, ok', g'⟩
  obtain ⟨w1, w2, w3⟩ := it S' ok' g'.g
  by_cases hlt : i < its.n
  · refine .inr ⟨w1 i hlt, fun σ2 H2 => ∃ S2, S2.σ = σ2 ∧ S2.H = H2 ∧ I (i + 1) S2.ρ ∧ Ok C.X.K C.T S2 ∧ Go (S.to F1 ρ1 H1) S2, ?_, ?_⟩
    · rintro σ2 H2 ⟨S2, e1, e2, e3, e4, e5⟩
      exact ⟨its.n - (i + 1), by omega, S2, e1, e2, rfl, hlt, e3, e4, e5⟩
    · intro x H2 y
      obtain ⟨F2, d, hd, ok2, g2, rr⟩ := w3 i x H2 hlt y
      refine hg c (S'.to F2 S'.ρ H2) d x _ _ ok2 (((g0.trans g1).trans g').trans g2) rr (step i d S'.ρ hlt hd hI) fun S3 q3 ok3 g3 => ?_
      have gg := (g'.trans g2).trans g3
      exact hb c S3 _ _ ok3 ((g0.trans g1).trans gg) q3 ⟨fun S4 a b d => ⟨S4, rfl, rfl, a, b, gg.trans d⟩, fun S4 a b d => k.nx S4 a b ((g1.trans gg).trans d), fun S4 a b d => ⟨S4, rfl, rfl, a, b, gg.trans d⟩, fun r v S4 a b d e => k.rt r v S4 a b ((g1.trans gg).trans d) (e.start fun a z => (g1.trans gg).dom a z)⟩
  · have e : i = its.n := by omega
    subst e
    exact .inl ⟨w2, k.nx S' (fin _ hI) ok' (g1.trans g')⟩
/-! ### while -/
def rWhile (t : TTd) (tb : TSd) : TSd := fun E ρ => ∃ I : Nat → List Sl → Prop, (∃ m, I m ρ) ∧ ∀ m ρ', I m ρ' → t ρ' fun b ρ1 => (b = true → tb { E with nx := fun ρ2 => ∃ m', m' < m ∧ I m' ρ2, ct := fun ρ2 => ∃ m', m' < m ∧ I m' ρ2, bk := E.nx } ρ1) ∧ (b = false → E.nx ρ1)
theorem ds_while {cnd : Expr} {t : TTd} {tb : TSd} {body : List Stmt} (hc : PTd C cnd t) (hb : PSsd C body tb) : PSd C (.While cnd body [] pos) (rWhile t tb) := fun c S E D ok g0 h k => by
  refine wS.of (ps_while c.po pt_w pss_w) ?_
  obtain ⟨I, ⟨m0, i0⟩, step⟩ := h
  refine ⟨fun m σ H => ∃ S', S'.σ = σ ∧ S'.H = H ∧ I m S'.ρ ∧ Ok C.X.K C.T S' ∧ Go S S', ⟨m0, S, rfl, rfl, i0, ok, Go.refl _⟩, ?_⟩
  rintro m σ H ⟨S', rfl, rfl, hI, ok', g'⟩
  refine hc c S' _ _ ok' (g0.trans g') (step m S'.ρ hI) fun b F1 ρ1 H1 q1 ok1 g1 => ?_
  cases b with
  | true =>
    refine ⟨fun σ2 H2 => ∃ S2, S2.σ = σ2 ∧ S2.H = H2 ∧ (∃ m', m' < m ∧ I m' S2.ρ) ∧ Ok C.X.K C.T S2 ∧ Go S S2, ?_, ?_⟩
    · rintro σ2 H2 ⟨S2, e1, e2, ⟨m', hm, e3⟩, e4, e5⟩
      exact ⟨m', hm, S2, e1, e2, e3, e4, e5⟩
    · have gg := g'.trans g1
      exact hb c (S'.to F1 ρ1 H1) _ _ ok1 (g0.trans gg) (q1.1 rfl) ⟨fun S4 a b d => ⟨S4, rfl, rfl, a, b, gg.trans d⟩, fun S4 a b d => k.nx S4 a b (gg.trans d), fun S4 a b d => ⟨S4, rfl, rfl, a, b, gg.trans d⟩, fun r v S4 a b d e => k.rt r v S4 a b (gg.trans d) (e.start fun a z => gg.dom a z)⟩
  | false => exact k.nx (S'.to F1 ρ1 H1) (q1.2 rfl) ok1 (g'.trans g1)
end
end DL
/-! List comprehensions over data -/
namespace DL
open PySem PySem.Spec PyProof.Rows L2
/-- the context within a comprehension's block -/
def Cd.blk (C : Cd) (s : Shared) (H : Hp) (scope : Scope) (Ca : Addr) (cl : List (Str × Addr)) (fp : List Addr) (S0 : Sx) : Cd where
  X := C.X.blk s H scope (compEnvC scope cl Ca C.X.env) fp
  T := C.T
  S0 := S0
  W := fun _ _ _ _ => False
  R := fun _ _ => False
  k := C.k
theorem Cd.Wf.blk {C : Cd} (c : C.Wf) (s : Shared) (H : Hp) (scope : Scope) (Ca : Addr) (cl : List (Str × Addr)) (fp : List Addr) (S0 : Sx) : (C.blk s H scope Ca cl fp S0).Wf where
  tk := fun _ _ x => (by obtain ⟨_, _, _, _, _, _, _, _, _, _, _, _, _, _, _, _, z⟩ := x; exact z.elim)
  room := c.room
  calm := c.calm
  nd := c.nd
  po := PassesOwn.never
  lk := fun _ _ _ _ h => h.elim
/-- a target that stores at slots of vs alone -/
def PGx (C : Cd) (vs : List Nat) (tg : Expr) (g : TGd) : Prop := C.Wf → ∀ (S : Sx) (d : D) (v : V) (Q : List Sl → Prop) (Q' : L2.St → Hp → Prop), Ok C.X.K C.T S → Go C.S0 S → Rp C.X.K S.F v d → g d S.ρ Q →
  (∀ S', S'.σ.length = S.σ.length → (∀ j, j ∉ vs → S'.σ[j]? = S.σ[j]?) → Q S'.ρ → Ok C.X.K C.T S' → Go S S' → Q' S'.σ S'.H) → wG C.X tg v S.σ S.H Q'
def PGsx (C : Cd) (ns : List Nat) (ts : List Expr) (g : TGsd) : Prop := C.Wf → ∀ (S : Sx) (ds : List D) (vs : List V) (Q : List Sl → Prop) (Q' : L2.St → Hp → Prop), Ok C.X.K C.T S → Go C.S0 S → RpL C.X.K S.F vs ds → g ds S.ρ Q →
  (∀ S', S'.σ.length = S.σ.length → (∀ j, j ∉ ns → S'.σ[j]? = S.σ[j]?) → Q S'.ρ → Ok C.X.K C.T S' → Go S S' → Q' S'.σ S'.H) → wGs C.X ts vs S.σ S.H Q'
section
variable {C : Cd} {e : Expr} {es : List Expr} {pos : Pos} {g : TGd} {gs : TGsd} {ns : List Nat}
theorem dx_name (i : Nat) {x : Str} (hm : i ∈ ns) (hi : C.X.N[i]? = some x) (hx : Loc C.X.env.scope x) (hf : C.X.fn x = true ∨ C.X.env.scope.names.lookup x = some .local := by first | exact .inl rfl | exact .inr rfl | assumption) : PGx C ns (.Name x pos) (gNm i) :=
  fun c S d v Q Q' ok g0 r h k => wG.of (pg_name c.nd hi hx hf) (k ⟨S.F, S.ρ.set i (.sh d), S.σ.set i (some v), S.H⟩ (by simp) (fun j hj => List.getElem?_set_ne (fun z => hj (by rw [← z]; exact hm))) h (ok.put (i := i) (s := .sh d) ⟨v, rfl, r⟩ (fun z => by cases z)) (Go.put (Go.refl S) (i := i) (s := .sh d) (fun z => by cases z)))
theorem dxs_nil : PGsx C ns [] gNl := fun c S ds vs Q Q' ok g0 r h k => by
  obtain ⟨rfl, h⟩ := h
  cases r
  exact wGs.of pgs_nil ⟨rfl, k S rfl (fun _ _ => rfl) h ok (Go.refl S)⟩
theorem dxs_cons (h1 : PGx C ns e g) (h2 : PGsx C ns es gs) (hs : (assignEach (e :: es) C.X.env).map (·.2) = assign e C.X.env :: (assignEach es C.X.env).map (·.2) := by rfl) : PGsx C ns (e :: es) (gCn g gs) := fun c S ds vs Q Q' ok g0 r h k => by
  cases ds with
  | nil => exact (show False from h).elim
  | cons d ds =>
    cases r with
    | cons r1 r2 =>
      exact wGs.of (pgs_cons pg_w pgs_w hs) ⟨_, _, rfl, h1 c S d _ _ _ ok g0 r1 h fun S' l1 o1 q ok' g' => h2 c S' ds _ Q Q' ok' (g0.trans g') (RpL.mono g'.g _ _ r2) q fun S2 l2 o2 q2 ok2 g2 => k S2 (l2.trans l1) (fun j hj => (o2 j hj).trans (o1 j hj)) q2 ok2 (g'.trans g2)⟩
theorem dx_tup {k0 n : Nat} (h : PGsx C ns es gs) (hn : (assignEach es C.X.env).length = n := by rfl) (hst : (assignEach es C.X.env).findIdx? (·.1) = none := by rfl) : PGx C ns (.Tuple es k0 pos) (gTp n gs) := fun c S d v Q Q' ok g0 r hq k => by
  cases d with
  | tup ds =>
    cases r with
    | tup h1 r1 =>
      exact wG.of (pg_tup c.calm pgs_w hn hst) ⟨_, _, rfl, sqt_rd (Rd.sub h1 ok.sub), by rw [r1.length]; exact hq.1, h c S ds _ Q Q' ok g0 r1 hq.2 k⟩
  | _ => exact (show False from hq).elim
end

/-! ### the block's own slots -/
def wip (ρ : List Sl) : List Nat → List Sl
  | [] => ρ
  | v :: vs => (wip ρ vs).set v .no
theorem wip_length (ρ : List Sl) : ∀ vs : List Nat, (wip ρ vs).length = ρ.length
  | [] => rfl
  | v :: vs => by unfold wip; rw [List.length_set, wip_length ρ vs]
theorem wip_out {ρ : List Sl} {i : Nat} : ∀ {vs : List Nat}, i ∉ vs → (wip ρ vs)[i]? = ρ[i]?
  | [], _ => rfl
  | v :: vs, h => by
    have h1 : v ≠ i := fun e => h (by rw [e]; exact List.mem_cons_self)
    have h2 : i ∉ vs := fun m => h (List.mem_cons_of_mem _ m)
    unfold wip
    rw [List.getElem?_set_ne h1]
    exact wip_out h2
theorem wip_in {ρ : List Sl} {i : Nat} {s : Sl} : ∀ {vs : List Nat}, i ∈ vs → (wip ρ vs)[i]? = some s → s = .no
  | [], h, _ => by simp at h
  | v :: vs, h, e => by
    unfold wip at e
    rcases set_at e with ⟨_, e⟩ | ⟨ne, e⟩
    · exact e
    · rcases List.mem_cons.mp h with z | z
      · exact absurd z ne
      · exact wip_in z e
/-- behind the block: the own slots are as they were -/
def unw (ρ1 : List Sl) : List Nat → List Sl → List Sl
  | [], ρ => ρ
  | v :: vs, ρ => (unw ρ1 vs ρ).set v (ρ1[v]?.getD .no)
theorem unw_length (ρ1 ρ : List Sl) : ∀ vs : List Nat, (unw ρ1 vs ρ).length = ρ.length
  | [] => rfl
  | v :: vs => by unfold unw; rw [List.length_set, unw_length ρ1 ρ vs]
theorem unw_out {ρ1 ρ : List Sl} {i : Nat} : ∀ {vs : List Nat}, i ∉ vs → (unw ρ1 vs ρ)[i]? = ρ[i]?
  | [], _ => rfl
  | v :: vs, h => by
    have h1 : v ≠ i := fun e => h (by rw [e]; exact List.mem_cons_self)
    have h2 : i ∉ vs := fun m => h (List.mem_cons_of_mem _ m)
    unfold unw
    rw [List.getElem?_set_ne h1]
    exact unw_out h2
theorem unw_in {ρ1 ρ : List Sl} {i : Nat} {s : Sl} (hl : ρ.length = ρ1.length) : ∀ {vs : List Nat}, i ∈ vs → (unw ρ1 vs ρ)[i]? = some s → ρ1[i]? = some s
  | [], h, _ => by simp at h
  | v :: vs, h, e => by
    unfold unw at e
    rcases set_at e with ⟨rfl, e2⟩ | ⟨ne, e2⟩
    · have hv : i < (unw ρ1 vs ρ).length := by
        have q := (List.getElem?_eq_some_iff.mp e).1
        rw [List.length_set] at q; exact q
      rw [unw_length, hl] at hv
      rw [List.getElem?_eq_getElem hv] at e2 ⊢
      rw [e2]; rfl
    · rcases List.mem_cons.mp h with z | z
      · exact absurd z ne
      · exact unw_in hl z e2
section
variable {K : PySem.W.Frag} {T : Tz} {S0 S : Sx} {vs : List Nat}
theorem wipe_eq {σ σ2 : L2.St} (hl : σ2.length = σ.length) (h : ∀ j, j ∉ vs → σ2[j]? = σ[j]?) : L2.wipe σ2 vs = L2.wipe σ vs := by
  refine List.ext_getElem? fun i => ?_
  by_cases hi : i ∈ vs
  · have q : ∀ (τ : L2.St) (ws : List Nat), i ∈ ws → (L2.wipe τ ws)[i]? = if i < τ.length then some none else none := by
      intro τ ws
      induction ws with
      | nil => intro h; simp at h
      | cons v ws ih =>
        intro h
        unfold L2.wipe
        by_cases e : v = i
        · subst e
          by_cases hv : v < τ.length
          · rw [List.getElem?_set_self (by rw [wipe_length]; exact hv), if_pos hv]
          · rw [List.getElem?_eq_none (by rw [List.length_set, wipe_length]; omega), if_neg hv]
        · rw [List.getElem?_set_ne e]
          exact ih ((List.mem_cons.mp h).resolve_left (Ne.symm e))
    rw [q _ _ hi, q _ _ hi, hl]
  · rw [wipe_out hi, wipe_out hi]
    exact h i hi
theorem wipe_wipe {σ : L2.St} : L2.wipe (L2.wipe σ vs) vs = L2.wipe σ vs := wipe_eq (wipe_length σ vs) fun j hj => wipe_out hj
theorem own_wip {a : Addr} {F H : Hp} (h : Own ⟨F, wip S.ρ vs, L2.wipe S.σ vs, H⟩ a) : Own S a := by
  obtain ⟨j, u, h1, h2, h3⟩ := h
  by_cases hj : j ∈ vs
  · rw [wip_in hj h1] at h2; cases h2
  · exact ⟨j, u, by rw [← wip_out hj]; exact h1, h2, by rw [← wipe_out hj]; exact h3⟩
theorem ofr_wip {a : Addr} {F H : Hp} (h : Ofr ⟨F, wip S.ρ vs, L2.wipe S.σ vs, H⟩ a) : Ofr S a := by
  obtain ⟨j, u, h1, h2, h4, h3⟩ := h
  by_cases hj : j ∈ vs
  · rw [wip_in hj h1] at h2; cases h2
  · exact ⟨j, u, by rw [← wip_out hj]; exact h1, h2, h4, by rw [← wipe_out hj]; exact h3⟩
theorem Ok.wip (ok : Ok K T S) : Ok K T ⟨S.F, DL.wip S.ρ vs, L2.wipe S.σ vs, S.H⟩ where
  sub := ok.sub
  tab := ok.tab
  len := by show (DL.wip S.ρ vs).length = (L2.wipe S.σ vs).length; rw [wip_length, wipe_length]; exact ok.len
  slot := fun j s h => by
    by_cases hj : j ∈ vs
    · rw [wip_in hj h]; trivial
    · have h : (DL.wip S.ρ vs)[j]? = some s := h
      rw [wip_out hj] at h
      show slR K S.F S.H s (L2.wipe S.σ vs)[j]?
      rw [wipe_out hj]
      exact ok.slot j s h
  dis := fun j k s t a h1 h2 w1 w2 e1 e2 => by
    have h1 : (DL.wip S.ρ vs)[j]? = some s := h1
    have h2 : (DL.wip S.ρ vs)[k]? = some t := h2
    have e1 : (L2.wipe S.σ vs)[j]? = _ := e1
    have e2 : (L2.wipe S.σ vs)[k]? = _ := e2
    by_cases hj : j ∈ vs
    · rw [wip_in hj h1] at w1; cases w1
    · by_cases hk : k ∈ vs
      · rw [wip_in hk h2] at w2; cases w2
      · rw [wip_out hj] at h1; rw [wip_out hk] at h2; rw [wipe_out hj] at e1; rw [wipe_out hk] at e2
        exact ok.dis j k s t a h1 h2 w1 w2 e1 e2
/-- from a wiped state on: the slots of vs are wiped again -/
theorem Go.wip (g : Go ⟨S0.F, DL.wip S0.ρ vs, L2.wipe S0.σ vs, S0.H⟩ S) (hσ : L2.wipe S.σ vs = L2.wipe S0.σ vs) : Go ⟨S0.F, DL.wip S0.ρ vs, L2.wipe S0.σ vs, S0.H⟩ ⟨S.F, DL.wip S.ρ vs, L2.wipe S.σ vs, S.H⟩ where
  g := g.g
  kp := g.kp
  nw := g.nw
  ow := fun a h => g.ow a (own_wip h)
  fr := fun a h => g.fr a (ofr_wip h)
  dom := g.dom
  pin := fun j s h1 h2 h3 => by
    have h1 : (DL.wip S.ρ vs)[j]? = some s := h1
    by_cases hj : j ∈ vs
    · rw [wip_in hj h1] at h2; cases h2
    · rw [wip_out hj] at h1
      obtain ⟨e, q⟩ := g.pin j s h1 h2 h3
      exact ⟨by show (L2.wipe S.σ vs)[j]? = _; rw [wipe_out hj]; exact e, q⟩
/-- the list at D is rewritten: neither owned by a slot, nor data -/
theorem Ok.poke {Da : Addr} {vs us : List V} (ok : Ok K T S) (hF : S.F Da = none) (no : ¬ Own S Da) (hD : S.H Da = some (.lst vs)) : Ok K T ⟨S.F, S.ρ, S.σ, upd S.H Da (.lst us)⟩ where
  sub := fun a o e => by
    show upd S.H Da (.lst us) a = some o
    rw [upd_ne (fun z => by rw [z, hF] at e; cases e)]
    exact ok.sub a o e
  tab := by
    intro t ht
    obtain ⟨ps, a1, a2, a3⟩ := ok.tab t ht
    refine ⟨ps, ?_, a2, fun pos cv hc => ?_⟩
    · show upd S.H Da (.lst us) t.1 = _
      rw [upd_ne (fun z => by rw [z, hD] at a1; cases a1)]
      exact a1
    · obtain ⟨cc, b1, b2⟩ := a3 pos cv hc
      refine ⟨cc, b1, ?_⟩
      show upd S.H Da (.lst us) cc = _
      rw [upd_ne (fun z => by rw [z, hD] at b2; unfold LamX.CodeO at b2; cases b2)]
      exact b2
  len := ok.len
  slot := fun j t e => by
    cases w2 : t.owned with
    | false => exact (ok.slot j t e).val w2 (G.refl _)
    | true =>
      obtain ⟨q, u', b1, b2, b3, b4⟩ := (ok.slot j t e).at w2
      refine slR.of (p := q) (u := u') b1 b2 ?_ b4
      show upd S.H Da (.lst us) q = _
      rw [upd_ne (fun z => no ⟨j, t, e, w2, by rw [← z]; exact b1⟩)]
      exact b3
  dis := ok.dis
theorem Go.poke {Da : Addr} {us : List V} (g : Go S0 S) (h0 : S0.H Da = none) : Go S0 ⟨S.F, S.ρ, S.σ, upd S.H Da (.lst us)⟩ where
  g := g.g
  kp := fun a o e n no => by
    show upd S.H Da (.lst us) a = some o
    rw [upd_ne (fun z => by rw [z, h0] at e; cases e)]
    exact g.kp a o e n no
  nw := g.nw
  ow := g.ow
  fr := g.fr
  dom := fun a e => by
    have e : upd S.H Da (.lst us) a = none := e
    by_cases z : a = Da
    · rw [z, upd_same] at e; cases e
    · rw [upd_ne z] at e; exact g.dom a e
  pin := g.pin
/-- back out of the block: S1 ahead of it, S' behind it (over the wiped slots) -/
theorem back {S1 S' : Sx} (ok1 : Ok K T S1) (ok : Ok K T S') (g : Go ⟨S1.F, DL.wip S1.ρ vs, L2.wipe S1.σ vs, S1.H⟩ S') (e : S'.σ = L2.wipe S1.σ vs) (hw : ∀ j s, j ∈ vs → S'.ρ[j]? = some s → s = .no) :
    Ok K T ⟨S'.F, unw S1.ρ vs S'.ρ, S1.σ, S'.H⟩ ∧ Go S1 ⟨S'.F, unw S1.ρ vs S'.ρ, S1.σ, S'.H⟩ ∧ ∀ a, Own ⟨S'.F, unw S1.ρ vs S'.ρ, S1.σ, S'.H⟩ a → Own S1 a ∨ Own S' a := by
  have hl : S'.ρ.length = S1.ρ.length := by rw [ok.len, e, wipe_length]; exact ok1.len.symm
  have at_ : ∀ (j : Nat) (s : Sl), (unw S1.ρ vs S'.ρ)[j]? = some s → (j ∈ vs ∧ S1.ρ[j]? = some s) ∨ (j ∉ vs ∧ S'.ρ[j]? = some s ∧ S'.σ[j]? = S1.σ[j]?) := fun j s h => by
    by_cases hj : j ∈ vs
    · exact .inl ⟨hj, unw_in hl hj h⟩
    · rw [unw_out hj] at h
      exact .inr ⟨hj, h, by rw [e]; exact wipe_out hj⟩
  have keep : ∀ (j : Nat) (s : Sl), j ∈ vs → S1.ρ[j]? = some s → slR K S'.F S'.H s S1.σ[j]? := fun j s hj h => by
    cases w : s.owned with
    | false => exact (ok1.slot j s h).val w g.g
    | true =>
      obtain ⟨q, u', b1, b2, b3, b4⟩ := (ok1.slot j s h).at w
      have no : ¬ Own ⟨S1.F, DL.wip S1.ρ vs, L2.wipe S1.σ vs, S1.H⟩ q := fun ⟨k, t, c1, c2, c3⟩ => by
        have c1 : (DL.wip S1.ρ vs)[k]? = some t := c1
        have c3 : (L2.wipe S1.σ vs)[k]? = _ := c3
        by_cases hk : k ∈ vs
        · rw [wip_in hk c1] at c2; cases c2
        · rw [wip_out hk] at c1; rw [wipe_out hk] at c3
          have z := ok1.dis j k s t q h c1 w c2 b1 c3
          exact hk (by rw [← z]; exact hj)
      refine slR.of (p := q) (u := u') b1 ?_ (g.kp q u' b3 (cont_tbl b4) no) (b4.mono g.g)
      cases z : S'.F q with
      | none => rfl
      | some o =>
        rcases g.nw q (by rw [z]; intro y; cases y) with y | y | y
        · exact absurd b2 y
        · have y : S1.H q = none := y
          rw [y] at b3; cases b3
        · exact absurd y.own no
  have ownA : ∀ a, Own ⟨S'.F, unw S1.ρ vs S'.ρ, S1.σ, S'.H⟩ a → Own S1 a ∨ Own S' a := fun a ⟨j, s, h1, h2, h3⟩ => by
    rcases at_ j s h1 with ⟨_, q⟩ | ⟨_, q, q2⟩
    · exact .inl ⟨j, s, q, h2, h3⟩
    · exact .inr ⟨j, s, q, h2, by rw [q2]; exact h3⟩
  refine ⟨⟨ok.sub, ok.tab, ?_, fun j s h => ?_, fun j k s t a h1 h2 w1 w2 e1 e2 => ?_⟩, ⟨g.g, fun a o h n no => g.kp a o h n fun z => no (own_wip z), fun a h => (g.nw a h).imp id fun z => z.imp id fun y => ofr_wip y, fun a h => ?_, fun a ⟨j, s, h1, h2, h4, h3⟩ => ?_, g.dom, fun j s h1 h2 h3 => ?_⟩, ownA⟩
  · show (unw S1.ρ vs S'.ρ).length = S1.σ.length
    rw [unw_length, hl]; exact ok1.len
  · rcases at_ j s h with ⟨hj, q⟩ | ⟨hj, q, q2⟩
    · exact keep j s hj q
    · show slR K S'.F S'.H s S1.σ[j]?
      rw [← q2]; exact ok.slot j s q
  · have cross : ∀ {j k : Nat} {s t : Sl}, j ∈ vs → S1.ρ[j]? = some s → k ∉ vs → S'.ρ[k]? = some t → S'.σ[k]? = S1.σ[k]? → s.owned = true → t.owned = true → S1.σ[j]? = some (some (.ref a)) → S1.σ[k]? = some (some (.ref a)) → False :=
      fun {j k s t} hj q hk r r2 w1 w2 e1 e2 => by
        rcases g.ow a ⟨k, t, r, w2, by rw [r2]; exact e2⟩ with ⟨m, u, c1, c2, c3⟩ | z
        · have c1 : (DL.wip S1.ρ vs)[m]? = some u := c1
          have c3 : (L2.wipe S1.σ vs)[m]? = _ := c3
          by_cases hm : m ∈ vs
          · rw [wip_in hm c1] at c2; cases c2
          · rw [wip_out hm] at c1; rw [wipe_out hm] at c3
            have z := ok1.dis j m s u a q c1 w1 c2 e1 c3
            exact hm (by rw [← z]; exact hj)
        · obtain ⟨q', u', b1, b2, b3, b4⟩ := (ok1.slot j s q).at w1
          rw [e1] at b1
          have b5 := Option.some.inj (Option.some.inj b1)
          cases b5
          have z : S1.H a = none := z
          rw [z] at b3; cases b3
    rcases at_ j s h1 with ⟨hj, q⟩ | ⟨hj, q, q2⟩
    · rcases at_ k t h2 with ⟨hk, r⟩ | ⟨hk, r, r2⟩
      · exact ok1.dis j k s t a q r w1 w2 e1 e2
      · exact (cross hj q hk r r2 w1 w2 e1 e2).elim
    · rcases at_ k t h2 with ⟨hk, r⟩ | ⟨hk, r, r2⟩
      · exact (cross hk r hj q q2 w2 w1 e2 e1).elim
      · exact ok.dis j k s t a q r w1 w2 (by rw [q2]; exact e1) (by rw [r2]; exact e2)
  · rcases ownA a h with z | z
    · exact .inl z
    · exact (g.ow a z).imp (fun y => own_wip y) id
  · rcases at_ j s h1 with ⟨_, q⟩ | ⟨_, q, q2⟩
    · exact .inl ⟨j, s, q, h2, h4, h3⟩
    · exact (g.fr a ⟨j, s, q, h2, h4, by rw [q2]; exact h3⟩).imp (fun y => ofr_wip y) id
  · rcases at_ j s h1 with ⟨_, q⟩ | ⟨hj, q, q2⟩
    · exact ⟨rfl, s, q, h2, h3⟩
    · obtain ⟨e1, t, c1, c2, c3⟩ := g.pin j s q h2 h3
      have c1 : (DL.wip S1.ρ vs)[j]? = some t := c1
      rw [wip_out hj] at c1
      exact ⟨rfl, t, c1, c2, c3⟩
end

/-! ### the comprehension -/
def PIfd (C : Cd) (ifs : List Expr) (t : TTd) : Prop := (ifs = [] ∧ t = fun ρ Q => Q true ρ) ∨ ∃ e, ifs = [e] ∧ PTd C e t
theorem pif_no {C : Cd} : PIfd C [] (fun ρ Q => Q true ρ) := .inl ⟨rfl, rfl⟩
theorem pif {C : Cd} {e : Expr} {t : TTd} (h : PTd C e t) : PIfd C [e] t := .inr ⟨e, rfl, h⟩
def rLcO (k : D → List Sl → Prop) : Option (D × List Sl) → Prop
  | some p => k p.1 p.2
  | none => False
def rLc (own : List Nat) (ti : TId) (g : TGd) (tt : TTd) (te : TEd) : TEd := fun ρ Q => ti ρ fun its ρ1 => ∃ I : Nat → List D → List Sl → Prop, I 0 [] (wip ρ1 own) ∧
  (∀ i d acc ρ', i < its.n → its.it i d → I i acc ρ' → g d ρ' fun ρ2 => tt ρ2 fun b ρ3 => (b = true → te ρ3 fun r ρ4 => rLcO (fun y ρ5 => acc.length < 16777216 ∧ I (i + 1) (acc ++ [y]) (wip ρ5 own)) (cl1 ρ4 r)) ∧ (b = false → I (i + 1) acc (wip ρ3 own))) ∧
  ∀ acc ρ', I its.n acc ρ' → Q (.new acc) (unw ρ1 own ρ')
theorem wip_wip {ρ : List Sl} {vs : List Nat} {j : Nat} {s : Sl} (h : j ∈ vs) (e : (wip ρ vs)[j]? = some s) : s = .no := wip_in h e
section
variable {C : Cd} {elt tg iter : Expr} {ifs : List Expr} {scope : Scope} {own : List (Str × Nat)} {pos : Pos} {ti : TId} {g : TGd} {tt : TTd} {te : TEd}
def bG (X : Cx) (scope : Scope) (tg : Expr) : TG := fun v σ H Q => ∀ (s : Shared) (H0 : Hp) (Ca : Addr) (cl : List (Str × Addr)) (fp : List Addr), wG (X.blk s H0 scope (compEnvC scope cl Ca X.env) fp) tg v σ H Q
def bE (X : Cx) (scope : Scope) (e : Expr) : TE := fun σ H Q => ∀ (s : Shared) (H0 : Hp) (Ca : Addr) (cl : List (Str × Addr)) (fp : List Addr), wE (X.blk s H0 scope (compEnvC scope cl Ca X.env) fp) e σ H Q
def wTs (X : Cx) (ifs : List Expr) : TT := fun σ H Q => ∀ (pins : List (Addr × Obj)) (s : Shared), Inv X pins σ H s →
  wpAny (model X.prog X.w) X.A (forIn ifs true fun c r => if r = true then do let ok ← isTrue c X.env (eval c X.env); pure (ForInStep.yield ok) else pure (ForInStep.yield r)) (TP X pins σ Q) X.xe s
def bT (X : Cx) (scope : Scope) (ifs : List Expr) : TT := fun σ H Q => ∀ (s : Shared) (H0 : Hp) (Ca : Addr) (cl : List (Str × Addr)) (fp : List Addr), wTs (X.blk s H0 scope (compEnvC scope cl Ca X.env) fp) ifs σ H Q
theorem bg_w {X : Cx} : ∀ (s : Shared) (H : Hp) (Ca : Addr) (cl : List (Str × Addr)) (fp : List Addr), PG (X.blk s H scope (compEnvC scope cl Ca X.env) fp) tg (bG X scope tg) := fun s H Ca cl fp => ⟨fun pins s' σ H' v u Q I r h => h s H Ca cl fp pins s' u I r⟩
theorem be_w {X : Cx} : ∀ (s : Shared) (H : Hp) (Ca : Addr) (cl : List (Str × Addr)) (fp : List Addr), PE (X.blk s H scope (compEnvC scope cl Ca X.env) fp) elt (bE X scope elt) := fun s H Ca cl fp => ⟨fun pins s' σ H' Q I h => h s H Ca cl fp pins s' I⟩
theorem bt_w {X : Cx} : ∀ (s : Shared) (H : Hp) (Ca : Addr) (cl : List (Str × Addr)) (fp : List Addr), PTs (X.blk s H scope (compEnvC scope cl Ca X.env) fp) ifs (bT X scope ifs) := fun s H Ca cl fp => ⟨fun pins s' σ H' Q I h => h s H Ca cl fp pins s' I⟩
theorem lc_read (hi : PId C tg iter ti)
    (hg : ∀ (s : Shared) (H : Hp) (Ca : Addr) (cl : List (Str × Addr)) (fp : List Addr) (S0 : Sx), PGx (C.blk s H scope Ca cl fp S0) (own.map (·.2)) tg g)
    (ht : ∀ (s : Shared) (H : Hp) (Ca : Addr) (cl : List (Str × Addr)) (fp : List Addr) (S0 : Sx), PIfd (C.blk s H scope Ca cl fp S0) ifs tt)
    (he : ∀ (s : Shared) (H : Hp) (Ca : Addr) (cl : List (Str × Addr)) (fp : List Addr) (S0 : Sx), PEd (C.blk s H scope Ca cl fp S0) elt te)
    (c : C.Wf) (S : Sx) (Q : Rv → List Sl → Prop) (Q' : VK) (ok : Ok C.X.K C.T S) (g0 : Go C.S0 S) (h : rLc (own.map (·.2)) ti g tt te S.ρ Q)
    (k : ∀ r v F' ρ' H', Q r ρ' → Ok C.X.K C.T (S.to F' ρ' H') → Go S (S.to F' ρ' H') → rvR C.X.K S.H (S.to F' ρ' H') r v → Q' v H') :
    tLc (wI C.X tg iter) (bG C.X scope tg) (bT C.X scope ifs) (bE C.X scope elt) (own.map (·.2)) S.σ S.H Q' := by
  refine hi c S _ _ ok g0 h fun its J F1 ρ1 H1 ⟨I, i0, step, fin⟩ ok1 g1 it => ?_
  intro Da hD
  -- the wiped state ahead of the block
  let vs := own.map (·.2)
  let S1 : Sx := S.to F1 ρ1 H1
  let Sw : Sx := ⟨F1, wip ρ1 vs, L2.wipe S.σ vs, H1⟩
  have okw : Ok C.X.K C.T Sw := Ok.wip (S := S1) ok1
  have noD : ∀ S', Go Sw S' → Own S' Da → False ∨ True := fun _ _ _ => .inr trivial
  refine ⟨fun i m H => ∃ S' accV acc, S'.σ = L2.wipe S.σ vs ∧ S'.H = H ∧ m = its.n - i ∧ i ≤ its.n ∧ I i acc S'.ρ ∧ Ok C.X.K C.T S' ∧ Go Sw S' ∧ S'.H Da = some (.lst accV) ∧ RpL C.X.K S'.F accV acc ∧ S'.F Da = none ∧ ¬ Own S' Da ∧ (∀ j s, j ∈ vs → S'.ρ[j]? = some s → s = .no), ⟨its.n, ?_⟩, ?_⟩
  · have ok2 : Ok C.X.K C.T (Sw.to F1 (wip ρ1 vs) (upd H1 Da (.lst []))) := Ok.laid (S := Sw) okw hD
    exact ⟨_, [], [], rfl, rfl, rfl, Nat.zero_le _, i0, ok2, Go.laid (S := Sw) hD, upd_same, .nil, okw.freeN hD, okw.noOwn hD, fun j s hj e => wip_in hj e⟩
  · rintro i m H ⟨⟨F0, ρ0, σ0, HH⟩, accV, acc, eσ, eH, rfl, hi, hI, ok', g', d1, d2, d3, d4, d5⟩
    have eσ : σ0 = L2.wipe S.σ vs := eσ
    have eH : HH = H := eH
    subst eσ eH
    let S' : Sx := ⟨F0, ρ0, L2.wipe S.σ vs, HH⟩
    have ok' : Ok C.X.K C.T S' := ok'
    have g' : Go Sw S' := g'
    have hI : I i acc S'.ρ := hI
    obtain ⟨w1, w2, w3⟩ := it S' ok' g'.g
    by_cases hlt : i < its.n
    · refine .inr ⟨w1 i hlt, fun H2 => ∃ S2 accV acc, S2.σ = L2.wipe S.σ vs ∧ S2.H = H2 ∧ I (i + 1) acc S2.ρ ∧ Ok C.X.K C.T S2 ∧ Go Sw S2 ∧ S2.H Da = some (.lst accV) ∧ RpL C.X.K S2.F accV acc ∧ S2.F Da = none ∧ ¬ Own S2 Da ∧ (∀ j s, j ∈ vs → S2.ρ[j]? = some s → s = .no), ?_, ?_⟩
      · rintro H2 ⟨S2, aV, a, e1, e2, e3, e4, e5, e6, e7, e8, e9, e10⟩
        exact ⟨its.n - (i + 1), by omega, S2, aV, a, e1, e2, rfl, hlt, e3, e4, e5, e6, e7, e8, e9, e10⟩
      · intro x H2 y
        obtain ⟨F2, d, hd, ok2, g2, rr⟩ := w3 i x H2 hlt y
        have eσ2 : (S'.to F2 S'.ρ H2).σ = L2.wipe S.σ vs := rfl
        -- what is known of the new list in all states behind
        have keepD : ∀ {a b : Sx}, Go a b → a.H Da = some (.lst accV) → a.F Da = none → ¬ Own a Da → b.H Da = some (.lst accV) ∧ b.F Da = none ∧ ¬ Own b Da := fun {a b} g h1 h2 h3 => by
          refine ⟨g.kp _ _ h1 (fun _ z => by cases z) h3, ?_, fun z => (g.ow _ z).elim h3 fun y => by rw [y] at h1; cases h1⟩
          cases z : b.F Da with
          | none => rfl
          | some o =>
            rcases g.nw Da (by rw [z]; intro y; cases y) with y | y | y
            · exact absurd h2 y
            · rw [y] at h1; cases h1
            · exact absurd y.own h3
        obtain ⟨k1, k2, k3⟩ := keepD g2 d1 d3 d4
        intro s H0 Ca cl fp
        have step' := step i d acc S'.ρ hlt hd hI
        have cb := c.blk s H0 scope Ca cl fp (S'.to F2 S'.ρ H2)
        refine hg s H0 Ca cl fp (S'.to F2 S'.ρ H2) cb (S'.to F2 S'.ρ H2) d x _ _ ok2 (Go.refl _) rr step' fun S3 l3 o3 q3 ok3 g3 => ?_
        have ew : L2.wipe S3.σ vs = L2.wipe S.σ vs := by
          rw [wipe_eq (σ := (S'.to F2 S'.ρ H2).σ) l3 o3, eσ2]; exact wipe_wipe
        refine ⟨ew, ?_⟩
        intro s H0 Ca cl fp
        have cb := c.blk s H0 scope Ca cl fp S3
        have gw3 : Go Sw S3 := (g'.trans g2).trans g3
        obtain ⟨k1, k2, k3⟩ := keepD g3 k1 k2 k3
        have after : ∀ b F4 ρ4 H4, ((b = true → te ρ4 fun r ρ5 => rLcO (fun y ρ6 => acc.length < 16777216 ∧ I (i + 1) (acc ++ [y]) (wip ρ6 vs)) (cl1 ρ5 r)) ∧ (b = false → I (i + 1) acc (wip ρ4 vs))) → Ok C.X.K C.T (S3.to F4 ρ4 H4) → Go S3 (S3.to F4 ρ4 H4) →
            (if b = true then bE C.X scope elt S3.σ H4 fun y H5 => ∃ acc, H5 Da = some (.lst acc) ∧ acc.length < sizeLine ∧ (∃ S2 accV acc2, S2.σ = L2.wipe S.σ vs ∧ S2.H = upd H5 Da (.lst (acc ++ [y])) ∧ I (i + 1) acc2 S2.ρ ∧ Ok C.X.K C.T S2 ∧ Go Sw S2 ∧ S2.H Da = some (.lst accV) ∧ RpL C.X.K S2.F accV acc2 ∧ S2.F Da = none ∧ ¬ Own S2 Da ∧ (∀ j s, j ∈ vs → S2.ρ[j]? = some s → s = .no))
              else ∃ S2 accV acc, S2.σ = L2.wipe S.σ vs ∧ S2.H = H4 ∧ I (i + 1) acc S2.ρ ∧ Ok C.X.K C.T S2 ∧ Go Sw S2 ∧ S2.H Da = some (.lst accV) ∧ RpL C.X.K S2.F accV acc ∧ S2.F Da = none ∧ ¬ Own S2 Da ∧ (∀ j s, j ∈ vs → S2.ρ[j]? = some s → s = .no)) := by
          intro b F4 ρ4 H4 q4 ok4 g4
          obtain ⟨k1, k2, k3⟩ := keepD g4 k1 k2 k3
          cases b with
          | false =>
            rw [if_neg Bool.false_ne_true]
            refine ⟨⟨F4, wip ρ4 vs, L2.wipe S3.σ vs, H4⟩, accV, acc, ew, rfl, q4.2 rfl, Ok.wip (S := S3.to F4 ρ4 H4) ok4, Go.wip (S0 := S1) (S := S3.to F4 ρ4 H4) (gw3.trans g4) ew, k1, RpL.mono ((g2.trans g3).trans g4).g _ _ d2, k2, fun z => k3 (own_wip (S := S3.to F4 ρ4 H4) z), fun j s hj e => wip_in hj e⟩
          | true =>
            rw [if_pos rfl]
            intro s H0 Ca cl fp
            refine he s H0 Ca cl fp (S3.to F4 ρ4 H4) (c.blk s H0 scope Ca cl fp _) (S3.to F4 ρ4 H4) _ _ ok4 (Go.refl _) (q4.1 rfl) fun r v F5 ρ5 H5 q5 ok5 g5 r5 => ?_
            have q5 : rLcO (fun y ρ6 => acc.length < 16777216 ∧ I (i + 1) (acc ++ [y]) (wip ρ6 vs)) (cl1 ρ5 r) := q5
            cases e1 : cl1 ρ5 r with
            | none => rw [e1] at q5; exact q5.elim
            | some pr =>
              rw [e1] at q5
              obtain ⟨dd, ρ6⟩ := pr
              obtain ⟨F6, ok6, g6, gF, r6⟩ := clean (S0 := S3.to F4 ρ4 H4) (S := S3.to F5 ρ5 H5) ok5 g5 r5 e1
              have ok6 : Ok C.X.K C.T (S3.to F6 ρ6 H5) := ok6
              have g6 : Go (S3.to F4 ρ4 H4) (S3.to F6 ρ6 H5) := g6
              obtain ⟨k1, k2, k3⟩ := keepD g6 k1 k2 k3
              have aR : RpL C.X.K F6 accV acc := RpL.mono (((g2.trans g3).trans g4).trans g6).g _ _ d2
              refine ⟨accV, k1, by rw [aR.length, sizeLine_eq]; exact q5.1, ⟨F6, wip ρ6 vs, L2.wipe S3.σ vs, upd H5 Da (.lst (accV ++ [v]))⟩, accV ++ [v], acc ++ [dd], ew, rfl, q5.2, ?_, ?_, upd_same, aR.append (.one r6), k2, fun z => k3 (own_wip (S := S3.to F6 ρ6 (upd H5 Da (.lst (accV ++ [v])))) z), fun j s hj e => wip_in hj e⟩
              · exact Ok.wip (S := S3.to F6 ρ6 (upd H5 Da (.lst (accV ++ [v])))) (Ok.poke (S := S3.to F6 ρ6 H5) ok6 k2 k3 k1)
              · exact Go.wip (S0 := S1) (S := S3.to F6 ρ6 (upd H5 Da (.lst (accV ++ [v])))) (Go.poke (S := S3.to F6 ρ6 H5) ((gw3.trans g4).trans g6) hD) ew
        rcases ht s H0 Ca cl fp S3 with ⟨e1, e2⟩ | ⟨e, e1, e2⟩
        · subst e1 e2
          intro pins s' I'
          refine pts_nil.run pins s' S3.σ S3.H _ I' ?_
          exact after true S3.F S3.ρ S3.H q3 ok3 (Go.refl _)
        · subst e1
          intro pins s' I'
          refine (pts_one pt_w).run pins s' S3.σ S3.H _ I' ?_
          exact e2 cb S3 _ _ ok3 (Go.refl _) q3 fun b F4 ρ4 H4 q4 ok4 g4 => after b F4 ρ4 H4 q4 ok4 g4
    · have e : i = its.n := by omega
      subst e
      refine .inl ⟨w2, ?_⟩
      obtain ⟨okb, gb, ownb⟩ := back (S1 := S1) ok1 ok' g' rfl d5
      refine k (.new acc) (.ref Da) S'.F (unw ρ1 vs S'.ρ) S'.H (fin acc S'.ρ hI) okb (g1.trans gb) ⟨Da, accV, rfl, g1.dom Da hD, d3, d1, d2, fun z => ?_⟩
      rcases ownb Da z with y | y
      · exact ok1.noOwn hD y
      · exact d4 y
theorem d_lc (hi : PId C tg iter ti) (bo : BlkOk C.X.N C.X.env.scope scope own)
    (hg : ∀ (s : Shared) (H : Hp) (Ca : Addr) (cl : List (Str × Addr)) (fp : List Addr) (S0 : Sx), PGx (C.blk s H scope Ca cl fp S0) (own.map (·.2)) tg g)
    (ht : ∀ (s : Shared) (H : Hp) (Ca : Addr) (cl : List (Str × Addr)) (fp : List Addr) (S0 : Sx), PIfd (C.blk s H scope Ca cl fp S0) ifs tt)
    (he : ∀ (s : Shared) (H : Hp) (Ca : Addr) (cl : List (Str × Addr)) (fp : List Addr) (S0 : Sx), PEd (C.blk s H scope Ca cl fp S0) elt te) (hs : ∀ x, foldedSetIterable iter C.X.env x = pure x := by intro _; rfl) :
    PEd C (.ListComp elt [⟨tg, iter, ifs, 0⟩] scope pos) (rLc (own.map (·.2)) ti g tt te) := fun c S Q Q' ok g0 h k =>
  wE.of (pe_lc c.calm c.nd pi_w bo bg_w bt_w be_w hs) (lc_read hi hg ht he c S Q Q' ok g0 h k)
theorem ds_setLc (i : Nat) {y : Str} {py spos : Pos} (hy : C.X.N[i]? = some y) (hyl : C.X.env.scope.names.lookup y = some .local) (hsw : swapsWith (.ListComp elt [⟨tg, iter, ifs, 0⟩] scope pos) (some (.Name y py)) spos.line C.X.env = pure true) (hi : PId C tg iter ti) (bo : BlkOk C.X.N C.X.env.scope scope own)
    (hg : ∀ (s : Shared) (H : Hp) (Ca : Addr) (cl : List (Str × Addr)) (fp : List Addr) (S0 : Sx), PGx (C.blk s H scope Ca cl fp S0) (own.map (·.2)) tg g)
    (ht : ∀ (s : Shared) (H : Hp) (Ca : Addr) (cl : List (Str × Addr)) (fp : List Addr) (S0 : Sx), PIfd (C.blk s H scope Ca cl fp S0) ifs tt)
    (he : ∀ (s : Shared) (H : Hp) (Ca : Addr) (cl : List (Str × Addr)) (fp : List Addr) (S0 : Sx), PEd (C.blk s H scope Ca cl fp S0) elt te) (hs : ∀ x, foldedSetIterable iter C.X.env x = pure x := by intro _; rfl) :
    PSd C (.Assign [.Name y py] (.ListComp elt [⟨tg, iter, ifs, 0⟩] scope pos) spos) (rSet i (rLc (own.map (·.2)) ti g tt te)) := fun c S E D ok g0 h k => by
  refine wS.of (ps_setLc c.calm c.nd hy hyl hsw pi_w bo bg_w bt_w be_w hs) ?_
  exact lc_read hi hg ht he c S _ _ ok g0 h fun r v F' ρ' H' q ok' g r' => by
    obtain ⟨S', e1, e2, q', ok'', g'', _⟩ := put_ok (S := S.to F' ρ' H') ok' g r' q
    have z := k.nx S' q' ok'' g''
    rw [e1, e2] at z
    exact z
end
end DL
/-! Calls of own defs; a def by its body -/
namespace DL
open PySem PySem.Spec PyProof.Rows L2

inductive Res where
  | val (d : D)
  | new (xs : List D)
  | nob (s : Sl)
  | er (e : Er)
abbrev DSp := List Sl → (Res → List Sl → Prop) → Prop
def Res.rv : Res → Option Rv
  | .val d => some (.val d)
  | .new xs => some (.new xs)
  | .nob s => some (.nob s)
  | .er _ => none
/-- a parameter's slot behind the call: only what was handed in to be changed is known -/
def out1 (a s : Sl) : Sl := if a.owned && s.owned && !s.fresh then s else .no
def outs : List Sl → List Sl → List Sl
  | [], _ => []
  | a :: as, s :: ρ => out1 a s :: outs as ρ
  | _ :: as, [] => .no :: outs as []
theorem outs_length : ∀ {as ρ : List Sl}, (outs as ρ).length = as.length
  | [], _ => rfl
  | a :: as, s :: ρ => congrArg (· + 1) outs_length
  | _ :: as, [] => congrArg (· + 1) outs_length
theorem outs_at : ∀ {as ρ : List Sl} {i : Nat} {s : Sl}, (outs as ρ)[i]? = some s → s = .no ∨ (s.owned = true ∧ s.fresh = false ∧ ρ[i]? = some s)
  | [], _, _, _, h => by simp [outs] at h
  | a :: as, r :: ρ, 0, s, h => by
    have h : out1 a r = s := by simpa [outs] using h
    unfold out1 at h
    split at h
    · rename_i q
      simp only [Bool.and_eq_true, Bool.not_eq_true'] at q
      subst h
      exact .inr ⟨q.1.2, q.2, rfl⟩
    · exact .inl h.symm
  | a :: as, r :: ρ, i + 1, s, h => by
    have h : (outs as ρ)[i]? = some s := by simpa [outs] using h
    simpa using outs_at h
  | _ :: as, [], 0, s, h => by
    have h : Sl.no = s := by simpa [outs] using h
    exact .inl h.symm
  | _ :: as, [], i + 1, s, h => by
    have h : (outs as [])[i]? = some s := by simpa [outs] using h
    simpa using outs_at h
/-- the def over the heap that sp says over data -/
def toSp (K : PySem.W.Frag) (T : Tz) (n : Nat) (sp : DSp) : Sp := fun vs H Q E => vs.length = n ∧ ∃ (F : Hp) (as : List Sl) (Rr : Res → List Sl → Prop),
  Ok K T ⟨F, as, vs.map some, H⟩ ∧ (∀ (i : Nat) (s : Sl), as[i]? = some s → s.fresh = false) ∧ sp as Rr ∧
  (∀ res r v F' post H', Rr res post → res.rv = some r → Ok K T ⟨F', post, vs.map some, H'⟩ → Go ⟨F, as, vs.map some, H⟩ ⟨F', post, vs.map some, H'⟩ → (∀ (i : Nat) (s : Sl), post[i]? = some s → s = .no ∨ s.owned = true) → rvR K H ⟨F', post, vs.map some, H'⟩ r v → Q v H') ∧
  (∀ er F' post H' cls d, Rr (.er er) post → Ok K T ⟨F', post, vs.map some, H'⟩ → Go ⟨F, as, vs.map some, H⟩ ⟨F', post, vs.map some, H'⟩ → (∀ (i : Nat) (s : Sl), post[i]? = some s → s = .no ∨ s.owned = true) → ErR K ⟨F', post, vs.map some, H'⟩ er cls d → E cls d H')

/-! ### the caller's side -/
section
variable {K : PySem.W.Frag} {T : Tz} {S : Sx} {vs : List V} {ds : List D} {v : V} {i : Nat} {s : Sl} {F' H' : Hp} {post : List Sl}
theorem map_get {α β : Type} {f : α → β} {l : List α} {i : Nat} {y : β} (h : (l.map f)[i]? = some y) : ∃ x, l[i]? = some x ∧ y = f x := by
  rw [List.getElem?_map] at h
  cases e : l[i]? with
  | none => rw [e] at h; cases h
  | some x => rw [e] at h; cases h; exact ⟨x, rfl, rfl⟩
theorem Ok.args (ok : Ok K T S) (r : RpL K S.F vs ds) : Ok K T ⟨S.F, ds.map .sh, vs.map some, S.H⟩ where
  sub := ok.sub
  tab := ok.tab
  len := by simpa using r.length.symm
  slot := fun j u h => by
    obtain ⟨d, e, rfl⟩ := map_get h
    obtain ⟨w, e1, e2⟩ := r.get e
    exact ⟨w, by show (vs.map some)[j]? = _; rw [List.getElem?_map, e1]; rfl, e2⟩
  dis := fun j k a b p h1 _ w1 _ _ _ => by
    obtain ⟨d, e, rfl⟩ := map_get h1
    cases w1
theorem Ok.argsB (ok : Ok K T S) (r : RpL K S.F vs ds) (hs : S.ρ[i]? = some s) (w : s.owned = true) (hv : S.σ[i]? = some (some v)) : Ok K T ⟨S.F, s.fr false :: ds.map .sh, (v :: vs).map some, S.H⟩ where
  sub := ok.sub
  tab := ok.tab
  len := by simpa using r.length.symm
  slot := fun j u h => by
    cases j with
    | zero =>
      have h : s.fr false = u := by simpa using h
      subst h
      have q := ok.slot i s hs
      obtain ⟨p, o, h1, h2, h3, h4⟩ := q.at w
      rw [hv] at h1
      have e : v = .ref p := Option.some.inj (Option.some.inj h1)
      exact slR.of (p := p) (u := o) (by show some (some v) = _; rw [e]) h2 h3 (cont_fr h4)
    | succ j =>
      obtain ⟨d, e, rfl⟩ := map_get (show (ds.map Sl.sh)[j]? = some u from h)
      obtain ⟨w, e1, e2⟩ := r.get e
      exact ⟨w, by show (vs.map some)[j]? = _; rw [List.getElem?_map, e1]; rfl, e2⟩
  dis := fun j k a b p h1 h2 w1 w2 _ _ => by
    cases j with
    | zero =>
      cases k with
      | zero => rfl
      | succ k =>
        obtain ⟨d, e, rfl⟩ := map_get (show (ds.map Sl.sh)[k]? = some b from h2)
        cases w2
    | succ j =>
      obtain ⟨d, e, rfl⟩ := map_get (show (ds.map Sl.sh)[j]? = some a from h1)
      cases w1
theorem noOwnA {a : Addr} : ¬ Own ⟨S.F, ds.map .sh, vs.map some, S.H⟩ a := fun ⟨j, s, h, w, _⟩ => by
  obtain ⟨d, e, rfl⟩ := map_get (show (ds.map Sl.sh)[j]? = some s from h)
  cases w
/-- behind a call that was handed data only -/
theorem called (ok : Ok K T S) (ok' : Ok K T ⟨F', post, vs.map some, H'⟩) (g : Go ⟨S.F, ds.map .sh, vs.map some, S.H⟩ ⟨F', post, vs.map some, H'⟩) :
    Ok K T ⟨F', S.ρ, S.σ, H'⟩ ∧ Go S ⟨F', S.ρ, S.σ, H'⟩ := by
  have nw : ∀ a, F' a ≠ none → S.F a ≠ none ∨ S.H a = none := fun a h => (g.nw a h).elim .inl fun z => z.elim .inr fun y => absurd y.own noOwnA
  refine ⟨⟨ok'.sub, ok'.tab, ok.len, fun j u h => ?_, ok.dis⟩, ⟨g.g, fun a o h n _ => g.kp a o h n noOwnA, fun a h => (nw a h).imp id .inl, fun a h => .inl h, fun a h => .inl h, g.dom, fun j u h1 h2 h3 => ⟨rfl, u, h1, h2, h3⟩⟩⟩
  cases w : u.owned with
  | false => exact (ok.slot j u h).val w g.g
  | true =>
    obtain ⟨q, o, b1, b2, b3, b4⟩ := (ok.slot j u h).at w
    refine slR.of (p := q) (u := o) b1 ?_ (g.kp q o b3 (cont_tbl b4) noOwnA) (b4.mono g.g)
    cases z : F' q with
    | none => exact z
    | some x =>
      rcases nw q (by rw [z]; intro y; cases y) with y | y
      · exact absurd b2 y
      · rw [y] at b3; cases b3
theorem called_rv {Hs : Hp} {r : Rv} {u : V} {res : Res} (e : res.rv = some r) (hr : rvR K S.H ⟨F', post, vs.map some, H'⟩ r u) (ok : Ok K T S) (hd : ∀ a, S.H a = none → Hs a = none) : rvR K Hs ⟨F', S.ρ, S.σ, H'⟩ r u := by
  cases res with
  | val d => cases e; exact hr
  | new xs =>
    cases e
    obtain ⟨p, us, h1, h2, h3, h4, h5, h6⟩ := hr
    exact ⟨p, us, h1, hd p h2, h3, h4, h5, fun ⟨j, t, c1, c2, c3⟩ => by
      obtain ⟨q, o, b1, b2, b3, b4⟩ := (ok.slot j t c1).at c2
      rw [show S.σ[j]? = some (some (V.ref p)) from c3] at b1
      cases Option.some.inj (Option.some.inj b1)
      rw [h2] at b3; cases b3⟩
  | nob s =>
    cases e
    obtain ⟨p, us, h1, h2, h3, h4, h5, h7, h6⟩ := hr
    exact ⟨p, us, h1, hd p h2, h3, h4, h5, h7, fun ⟨j, t, c1, c2, c3⟩ => by
      obtain ⟨q, o, b1, b2, b3, b4⟩ := (ok.slot j t c1).at c2
      rw [show S.σ[j]? = some (some (V.ref p)) from c3] at b1
      cases Option.some.inj (Option.some.inj b1)
      rw [h2] at b3; cases b3⟩
  | er er => cases e
theorem ownB {a : Addr} (h : Own ⟨S.F, s.fr false :: ds.map .sh, (v :: vs).map some, S.H⟩ a) : v = .ref a := by
  obtain ⟨j, t, h1, w, h2⟩ := h
  cases j with
  | zero =>
    have h2 : some (some v) = some (some (V.ref a)) := by simpa using h2
    exact Option.some.inj (Option.some.inj h2)
  | succ j =>
    obtain ⟨d, e, rfl⟩ := map_get (show (ds.map Sl.sh)[j]? = some t from h1)
    cases w
def slotB (s : Sl) (post : List Sl) : Sl := (post.headD .no).fr s.fresh
/-- behind a call that was handed an owned thing first -/
theorem calledB (ok : Ok K T S) (hs : S.ρ[i]? = some s) (w : s.owned = true) (hv : S.σ[i]? = some (some v)) (ok' : Ok K T ⟨F', post, (v :: vs).map some, H'⟩)
    (g : Go ⟨S.F, s.fr false :: ds.map .sh, (v :: vs).map some, S.H⟩ ⟨F', post, (v :: vs).map some, H'⟩) (hp : ∀ (i : Nat) (s : Sl), post[i]? = some s → s = .no ∨ s.owned = true) :
    Ok K T ⟨F', S.ρ.set i (slotB s post), S.σ, H'⟩ ∧ Go S ⟨F', S.ρ.set i (slotB s post), S.σ, H'⟩ := by
  obtain ⟨p, o, h1, h2, h3, h4⟩ := (ok.slot i s hs).at w
  rw [hv] at h1
  have e : v = .ref p := Option.some.inj (Option.some.inj h1)
  have ownc : ∀ a, Own ⟨S.F, s.fr false :: ds.map .sh, (v :: vs).map some, S.H⟩ a → a = p := fun a h => by
    have z := ownB h
    rw [e] at z; cases z; rfl
  have ofrc : ∀ a, ¬ Ofr ⟨S.F, s.fr false :: ds.map .sh, (v :: vs).map some, S.H⟩ a := fun a ⟨j, t, c1, c2, c4, c3⟩ => by
    cases j with
    | zero =>
      have c1 : s.fr false = t := by simpa using c1
      rw [← c1, fresh_fr s w] at c4; cases c4
    | succ j =>
      obtain ⟨d, e, rfl⟩ := map_get (show (ds.map Sl.sh)[j]? = some t from c1)
      cases c2
  have nw : ∀ a, F' a ≠ none → S.F a ≠ none ∨ S.H a = none := fun a h => (g.nw a h).elim .inl fun z => z.elim .inr fun y => absurd y (ofrc a)
  have hi : i < S.ρ.length := (List.getElem?_eq_some_iff.mp hs).1
  -- the slot behind
  have pslot : slR K F' H' (slotB s post) (some (some v)) ∧ ((slotB s post).owned = true → (slotB s post).fresh = s.fresh) := by
    unfold slotB
    cases ep : post with
    | nil => exact ⟨trivial, fun z => by cases z⟩
    | cons q qs =>
      show slR K F' H' (q.fr s.fresh) _ ∧ _
      rcases hp 0 q (by rw [ep]; rfl) with rfl | wq
      · exact ⟨trivial, fun z => by cases z⟩
      · have z := ok'.slot 0 q (by show post[0]? = _; rw [ep]; rfl)
        obtain ⟨p', o', b1, b2, b3, b4⟩ := z.at wq
        exact ⟨slR.of (p := p') (u := o') (by simpa using b1) b2 b3 (cont_fr b4), fun _ => fresh_fr q wq⟩
  have at_ : ∀ (j : Nat) (t : Sl), (S.ρ.set i (slotB s post))[j]? = some t → t.owned = true → ∃ t', S.ρ[j]? = some t' ∧ t'.owned = true ∧ t'.fresh = t.fresh := fun j t h wt => by
    rcases set_at h with ⟨rfl, rfl⟩ | ⟨ne, h⟩
    · exact ⟨s, hs, w, (pslot.2 wt).symm⟩
    · exact ⟨t, h, wt, rfl⟩
  have own_ : ∀ a, Own ⟨F', S.ρ.set i (slotB s post), S.σ, H'⟩ a → Own S a := fun a ⟨j, t, c1, c2, c3⟩ => by
    obtain ⟨t', d1, d2, _⟩ := at_ j t c1 c2
    exact ⟨j, t', d1, d2, c3⟩
  refine ⟨⟨ok'.sub, ok'.tab, by simpa using ok.len, fun j u h => ?_, fun j k t u a h1 h2 w1 w2 e1 e2 => ?_⟩, ⟨g.g, fun a o' h n no => g.kp a o' h n fun z => no ?_, fun a h => (nw a h).imp id .inl, fun a h => .inl (own_ a h), fun a ⟨j, t, c1, c2, c4, c3⟩ => ?_, g.dom, fun j t c1 c2 c3 => ?_⟩⟩
  · rcases set_at h with ⟨rfl, rfl⟩ | ⟨ne, h⟩
    · show slR K F' H' _ S.σ[j]?
      rw [hv]; exact pslot.1
    · cases wu : u.owned with
      | false => exact (ok.slot j u h).val wu g.g
      | true =>
        obtain ⟨q, o', b1, b2, b3, b4⟩ := (ok.slot j u h).at wu
        have nq : q ≠ p := fun z => ne (ok.dis j i u s p h hs wu w (by rw [← z]; exact b1) (by rw [hv, e]))
        refine slR.of (p := q) (u := o') b1 ?_ (g.kp q o' b3 (cont_tbl b4) fun z => nq (ownc q z)) (b4.mono g.g)
        cases z : F' q with
        | none => exact z
        | some x =>
          rcases nw q (by rw [z]; intro y; cases y) with y | y
          · exact absurd b2 y
          · rw [y] at b3; cases b3
  · obtain ⟨t', d1, d2, _⟩ := at_ j t h1 w1
    obtain ⟨u', d3, d4, _⟩ := at_ k u h2 w2
    exact ok.dis j k t' u' a d1 d3 d2 d4 e1 e2
  · rw [ownc a z]; exact ⟨i, s, hs, w, by rw [hv, e]⟩
  · obtain ⟨t', d1, d2, d3⟩ := at_ j t c1 c2
    exact .inl ⟨j, t', d1, d2, d3.trans c4, c3⟩
  · obtain ⟨t', d1, d2, d3⟩ := at_ j t c1 c2
    exact ⟨rfl, t', d1, d2, d3.trans c3⟩
theorem calledB_rv {Hs : Hp} {r : Rv} {u : V} {res : Res} (e : res.rv = some r) (hs : S.ρ[i]? = some s) (w : s.owned = true) (hr : rvR K S.H ⟨F', post, (v :: vs).map some, H'⟩ r u) (ok : Ok K T S) (hd : ∀ a, S.H a = none → Hs a = none) : rvR K Hs ⟨F', S.ρ.set i (slotB s post), S.σ, H'⟩ r u := by
  cases res with
  | val d => cases e; exact hr
  | new xs =>
    cases e
    obtain ⟨p, us, h1, h2, h3, h4, h5, h6⟩ := hr
    exact ⟨p, us, h1, hd p h2, h3, h4, h5, fun ⟨j, t, c1, c2, c3⟩ => by
      have : ∃ t', S.ρ[j]? = some t' ∧ t'.owned = true := by
        rcases set_at c1 with ⟨rfl, rfl⟩ | ⟨ne, h⟩
        · exact ⟨s, hs, w⟩
        · exact ⟨t, h, c2⟩
      obtain ⟨t', d1, d2⟩ := this
      obtain ⟨q, o, b1, b2, b3, b4⟩ := (ok.slot j t' d1).at d2
      rw [show S.σ[j]? = some (some (V.ref p)) from c3] at b1
      cases Option.some.inj (Option.some.inj b1)
      rw [h2] at b3; cases b3⟩
  | nob s0 =>
    cases e
    obtain ⟨p, us, h1, h2, h3, h4, h5, h7, h6⟩ := hr
    exact ⟨p, us, h1, hd p h2, h3, h4, h5, h7, fun ⟨j, t, c1, c2, c3⟩ => by
      have : ∃ t', S.ρ[j]? = some t' ∧ t'.owned = true := by
        rcases set_at c1 with ⟨rfl, rfl⟩ | ⟨ne, h⟩
        · exact ⟨s, hs, w⟩
        · exact ⟨t, h, c2⟩
      obtain ⟨t', d1, d2⟩ := this
      obtain ⟨q, o, b1, b2, b3, b4⟩ := (ok.slot j t' d1).at d2
      rw [show S.σ[j]? = some (some (V.ref p)) from c3] at b1
      cases Option.some.inj (Option.some.inj b1)
      rw [h2] at b3; cases b3⟩
  | er er => cases e
theorem called_er {er : Er} {cls : Value} {d : Option Addr} {ρ : List Sl} {σ σ' : L2.St} {po : List Sl} (h : ErR K ⟨F', po, σ', H'⟩ er cls d) : ErR K ⟨F', ρ, σ, H'⟩ er cls d := h
end
section
variable {C : Cd} {e : Expr} {es : List Expr} {ta : TAd} {pos p : Pos} {x : Str} {f : Addr} {fd : FuncData} {ps : List Str} {k n : Nat} {sp : DSp}
def finR (R : Er → List Sl → Prop) (Q : Rv → List Sl → Prop) (ρ : List Sl) : Res → Prop
  | .val d => Q (.val d) ρ
  | .new xs => Q (.new xs) ρ
  | .nob s => Q (.nob s) ρ
  | .er er => R er ρ
def rCall (R : Er → List Sl → Prop) (sp : DSp) (ta : TAd) : TEd := fun ρ Q => ta ρ fun rs ρ1 => match clL ρ1 rs with
  | some (ds, ρ2) => sp (ds.map .sh) fun res _ => finR R Q ρ2 res
  | none => False
def rCallB2 (R : Er → List Sl → Prop) (sp : DSp) (i : Nat) (Q : Rv → List Sl → Prop) : Option (List D × List Sl) → Prop
  | some (ds, ρ2) => ∃ s, ρ2[i]? = some s ∧ s.owned = true ∧ sp (s.fr false :: ds.map .sh) fun res post => finR R Q (ρ2.set i (slotB s post)) res
  | none => False
def rCallB (R : Er → List Sl → Prop) (sp : DSp) (ta : TAd) : TEd := fun ρ Q => ta ρ fun rs ρ1 => match rs with
  | .own i :: rs' => rCallB2 R sp i Q (clL ρ1 rs')
  | _ => False
theorem finR_rv {R : Er → List Sl → Prop} {Q : Rv → List Sl → Prop} {ρ : List Sl} {res : Res} {r : Rv} (h : finR R Q ρ res) (e : res.rv = some r) : Q r ρ := by
  cases res with
  | val d => cases e; exact h
  | new xs => cases e; exact h
  | nob s => cases e; exact h
  | er er => cases e
theorem rvL.len {K : PySem.W.Frag} {S : Sx} : ∀ {rs : List Rv} {vs : List V}, rvL K S rs vs → vs.length = rs.length
  | [], [], _ => rfl
  | .val d :: rs, v :: vs, h => congrArg (· + 1) (rvL.len h.2)
  | .own i :: rs, v :: vs, h => congrArg (· + 1) (rvL.len h.2)
  | .new _ :: _, _, h => (show False from h).elim
  | .nob _ :: _, _, h => (show False from h).elim
  | [], _ :: _, h => (show False from h).elim
  | .val _ :: _, [], h => (show False from h).elim
  | .own _ :: _, [], h => (show False from h).elim
theorem d_call (F : FnOk C.X.prog C.X.w C.X.K C.X.mg C.X.base (L2N.CX C.X.prog C.X.w) k f fd ps (toSp C.X.K C.T n sp)) (hk : k ≤ C.k) (hn : (e :: es).length = n) (hg : Gl C.X x) (hm : C.X.mg x = some (.ref f)) (hkp : PySem.W.keepIn C.X.K (.ref f) = true) (hb : Binds C.X.K fd ps [])
    (ha : PAd C (e :: es) ta) (hdb : (x == ("__debug__" : Str)) = false := by decide) (he : starEach (e :: es) C.X.env = (false, eval e C.X.env) :: starEach es C.X.env := by rfl) (hpl : (backTo pos (starEach es C.X.env)).any (·.1) = false := by rfl) :
    PEd C (.Call (.Name x p) (e :: es) [] pos) (rCall C.R sp ta) := by
  intro c S Q Q' ok g0 h kk
  refine wE.of (pe_callS (F.mono hk) c.room hg hm hkp hb (fun σ => L2N.passAt c.tk σ) pa_w hdb he hpl) ?_
  refine ha c S _ _ ok g0 h fun rs vs F1 ρ1 H1 h1 ok1 g1 r1 hl => ?_
  split at h1
  · rename_i ds ρ2 e1
    obtain ⟨F2, ok2, g2, _, r2⟩ := cleanL (S0 := S) ok1 g1 r1 e1
    refine ⟨hl.trans hn, F2, ds.map .sh, _, Ok.args ok2 r2, fun i s hs => ?_, h1, fun res r v F' post H' q er ok' g' hp rr => ?_, fun er F' post H' cls d q ok' g' hp rr => ?_⟩
    · obtain ⟨d, _, rfl⟩ := map_get hs
      rfl
    · obtain ⟨ok3, g3⟩ := called ok2 ok' g'
      exact kk r v F' ρ2 H' (finR_rv q er) ok3 (g2.trans g3) (called_rv er rr ok2 (fun a z => g2.dom a z))
    · obtain ⟨ok3, g3⟩ := called ok2 ok' g'
      exact c.lk er (S.to F' ρ2 H') cls d q ok3 (g0.trans (g2.trans g3)) rr
  · exact h1.elim
theorem d_callR (F : FnOk C.X.prog C.X.w C.X.K C.X.mg C.X.base (L2N.CX C.X.prog C.X.w) k f fd ps (toSp C.X.K C.T n sp)) (hk : k ≤ C.k) (hn : (e :: es).length = n) (hg : Gl C.X x) (hm : C.X.mg x = some (.ref f)) (hkp : PySem.W.keepIn C.X.K (.ref f) = true) (hb : Binds C.X.K fd ps [])
    (ha : PAd C (e :: es) ta) (hdb : (x == ("__debug__" : Str)) = false := by decide) (he : starEach (e :: es) C.X.env = (false, eval e C.X.env) :: starEach es C.X.env := by rfl) (hpl : (backTo pos (starEach es C.X.env)).any (·.1) = false := by rfl) :
    PEd C (.Call (.Name x p) (e :: es) [] pos) (rCallB C.R sp ta) := by
  intro c S Q Q' ok g0 h kk
  refine wE.of (pe_callS (F.mono hk) c.room hg hm hkp hb (fun σ => L2N.passAt c.tk σ) pa_w hdb he hpl) ?_
  refine ha c S _ _ ok g0 h fun rs vs F1 ρ1 H1 h1 ok1 g1 r1 hl => ?_
  cases rs with
  | nil => exact h1.elim
  | cons r0 rs =>
    cases r0 with
    | val d => exact h1.elim
    | new xs => exact h1.elim
    | nob s => exact h1.elim
    | own i =>
      have h1 : rCallB2 C.R sp i Q (clL ρ1 rs) := h1
      cases vs with
      | nil => exact (show False from r1).elim
      | cons v0 vs =>
        have hv : S.σ[i]? = some (some v0) := r1.1
        have r1 : rvL C.X.K (S.to F1 ρ1 H1) rs vs := r1.2
        cases e1 : clL ρ1 rs with
        | none => rw [e1] at h1; exact h1.elim
        | some pr =>
          obtain ⟨ds, ρ2⟩ := pr
          rw [e1] at h1
          obtain ⟨s, hs, w, h1⟩ := h1
          obtain ⟨F2, ok2, g2, _, r2⟩ := cleanL (S0 := S) ok1 g1 r1 e1
          refine ⟨hl.trans hn, F2, s.fr false :: ds.map .sh, _, Ok.argsB (S := S.to F2 ρ2 H1) ok2 r2 hs w hv, fun j t ht => ?_, h1, fun res r v F' post H' q er ok' g' hp rr => ?_, fun er F' post H' cls d q ok' g' hp rr => ?_⟩
          · cases j with
            | zero =>
              have ht : s.fr false = t := by simpa using ht
              rw [← ht]; exact fresh_fr s w
            | succ j =>
              obtain ⟨d, _, rfl⟩ := map_get (show (ds.map Sl.sh)[j]? = some t from ht)
              rfl
          · obtain ⟨ok3, g3⟩ := calledB (S := S.to F2 ρ2 H1) ok2 hs w hv ok' g' hp
            exact kk r v F' _ H' (finR_rv q er) ok3 (g2.trans g3) (calledB_rv (S := S.to F2 ρ2 H1) er hs w rr ok2 (fun a z => g2.dom a z))
          · obtain ⟨ok3, g3⟩ := calledB (S := S.to F2 ρ2 H1) ok2 hs w hv ok' g' hp
            exact c.lk er (S.to F' _ H') cls d q ok3 (g0.trans (g2.trans g3)) rr
end

/-! ### a def by its body -/
def clR (ρ : List Sl) : Rv → Option Res
  | .val d => some (.val d)
  | .new xs => some (.new xs)
  | .nob s => some (.nob s)
  | .own i => match ρ[i]? with
    | some (.ow true xs) => some (.new xs)
    | some (.sh d) => some (.val d)
    | some (.dk true kvs) => some (.nob (.dk true kvs))
    | some (.dt true kvs) => some (.nob (.dt true kvs))
    | _ => none
def optR (Rr : Res → List Sl → Prop) (po : List Sl) : Option Res → Prop
  | some res => Rr res po
  | none => False
def bodyEd (as : List Sl) (Rr : Res → List Sl → Prop) : Ed where
  nx := fun ρ => Rr (.val .non) (outs as ρ)
  rt := fun r ρ => optR Rr (outs as ρ) (clR ρ r)
section
variable {K : PySem.W.Frag} {T : Tz} {F0 H : Hp} {as : List Sl} {vs : List V} {N : List Str} {m : Nat} {S' : Sx}
theorem nos_at {α : Type} {l : List α} {x : α} {m i : Nat} {y : α} (h : (l ++ List.replicate m x)[i]? = some y) : (i < l.length ∧ l[i]? = some y) ∨ (l.length ≤ i ∧ y = x) := by
  by_cases hi : i < l.length
  · rw [List.getElem?_append_left hi] at h; exact .inl ⟨hi, h⟩
  · rw [List.getElem?_append_right (by omega), List.getElem?_replicate] at h
    split at h
    · cases h; exact .inr ⟨by omega, rfl⟩
    · cases h
theorem start_at {i : Nat} (hi : i < vs.length) : (L2.start N vs)[i]? = (vs.map some)[i]? := by
  unfold L2.start
  rw [List.getElem?_append_left (by simpa using hi)]
theorem Ok.body (ok : Ok K T ⟨F0, as, vs.map some, H⟩) (hm : m = N.length - vs.length) : Ok K T ⟨F0, as ++ List.replicate m .no, L2.start N vs, H⟩ where
  sub := ok.sub
  tab := ok.tab
  len := by
    have := ok.len
    simp [L2.start, hm] at this ⊢
    omega
  slot := fun i s h => by
    have hl : as.length = vs.length := by simpa using ok.len
    rcases nos_at h with ⟨hi, h⟩ | ⟨_, rfl⟩
    · show slR K F0 H s (L2.start N vs)[i]?
      rw [start_at (by omega)]
      exact ok.slot i s h
    · trivial
  dis := fun i j s t a h1 h2 w1 w2 e1 e2 => by
    have hl : as.length = vs.length := by simpa using ok.len
    rcases nos_at h1 with ⟨hi, h1⟩ | ⟨_, rfl⟩
    · rcases nos_at h2 with ⟨hj, h2⟩ | ⟨_, rfl⟩
      · exact ok.dis i j s t a h1 h2 w1 w2 (by rw [← start_at (N := N) (by omega)]; exact e1) (by rw [← start_at (N := N) (by omega)]; exact e2)
      · cases w2
    · cases w1
theorem own_body {a : Addr} (hl : as.length = vs.length) (h : Own ⟨F0, as ++ List.replicate m .no, L2.start N vs, H⟩ a) : Own ⟨F0, as, vs.map some, H⟩ a := by
  obtain ⟨i, s, h1, w, h2⟩ := h
  rcases nos_at h1 with ⟨hi, h1⟩ | ⟨_, rfl⟩
  · exact ⟨i, s, h1, w, by rw [← start_at (N := N) (by omega)]; exact h2⟩
  · cases w
theorem ofr_body {a : Addr} (nf : ∀ (i : Nat) (s : Sl), as[i]? = some s → s.fresh = false) (h : Ofr ⟨F0, as ++ List.replicate m .no, L2.start N vs, H⟩ a) : False := by
  obtain ⟨i, s, h1, w, f, h2⟩ := h
  rcases nos_at h1 with ⟨hi, h1⟩ | ⟨_, rfl⟩
  · rw [nf i s h1] at f; cases f
  · cases w
/-- the end of a def's body as its caller sees it -/
theorem body_end (hl : as.length = vs.length) (nf : ∀ (i : Nat) (s : Sl), as[i]? = some s → s.fresh = false) (ok : Ok K T S') (g : Go ⟨F0, as ++ List.replicate m .no, L2.start N vs, H⟩ S') :
    Ok K T ⟨S'.F, outs as S'.ρ, vs.map some, S'.H⟩ ∧ Go ⟨F0, as, vs.map some, H⟩ ⟨S'.F, outs as S'.ρ, vs.map some, S'.H⟩ ∧ (∀ (i : Nat) (s : Sl), (outs as S'.ρ)[i]? = some s → s = .no ∨ s.owned = true) ∧
    (∀ (j : Nat) (s : Sl), (outs as S'.ρ)[j]? = some s → s.owned = true → S'.ρ[j]? = some s ∧ s.fresh = false ∧ (vs.map some)[j]? = S'.σ[j]?) := by
  have key : ∀ (j : Nat) (s : Sl), (outs as S'.ρ)[j]? = some s → s.owned = true → S'.ρ[j]? = some s ∧ s.fresh = false ∧ (vs.map some)[j]? = S'.σ[j]? ∧ ∃ t, as[j]? = some t ∧ t.owned = true ∧ t.fresh = false := fun j s h w => by
    have hj : j < as.length := by
      have := (List.getElem?_eq_some_iff.mp h).1
      rwa [outs_length] at this
    rcases outs_at h with rfl | ⟨_, f, e⟩
    · cases w
    · obtain ⟨p1, t, p2, p3, p4⟩ := g.pin j s e w f
      refine ⟨e, f, ?_, ?_⟩
      · rw [p1]; exact (start_at (N := N) (by omega)).symm
      · rcases nos_at p2 with ⟨_, p2⟩ | ⟨z, _⟩
        · exact ⟨t, p2, p3, p4⟩
        · omega
  have own_ : ∀ a, Own ⟨S'.F, outs as S'.ρ, vs.map some, S'.H⟩ a → Own S' a := fun a ⟨j, s, h1, w, h2⟩ => by
    obtain ⟨k1, k2, k3, _⟩ := key j s h1 w
    exact ⟨j, s, k1, w, by rw [← k3]; exact h2⟩
  refine ⟨⟨ok.sub, ok.tab, by rw [show (⟨S'.F, outs as S'.ρ, vs.map some, S'.H⟩ : Sx).ρ.length = as.length from outs_length, hl]; simp, fun j s h => ?_, fun i j s t a h1 h2 w1 w2 e1 e2 => ?_⟩, ⟨g.g, fun a o h n no => g.kp a o h n fun z => no (own_body hl z), fun a h => (g.nw a h).imp id fun z => z.imp id fun y => (ofr_body nf y).elim, fun a h => (g.ow a (own_ a h)).imp (fun z => own_body hl z) id, fun a ⟨j, s, h1, w, f, h2⟩ => ?_, g.dom, fun j s h1 w f => ?_⟩, fun i s h => ?_, fun j s h w => ?_⟩
  · cases w : s.owned with
    | false =>
      rcases outs_at h with rfl | ⟨z, _⟩
      · trivial
      · rw [w] at z; cases z
    | true =>
      obtain ⟨k1, k2, k3, _⟩ := key j s h w
      show slR K S'.F S'.H s (vs.map some)[j]?
      rw [k3]; exact ok.slot j s k1
  · obtain ⟨k1, _, k3, _⟩ := key i s h1 w1
    obtain ⟨l1, _, l3, _⟩ := key j t h2 w2
    exact ok.dis i j s t a k1 l1 w1 w2 (by rw [← k3]; exact e1) (by rw [← l3]; exact e2)
  · obtain ⟨_, k2, _⟩ := key j s h1 w
    rw [k2] at f; cases f
  · obtain ⟨_, _, k3, t, k4, k5, k6⟩ := key j s h1 w
    exact ⟨rfl, t, k4, k5, k6⟩
  · exact (outs_at h).imp id fun z => z.1
  · obtain ⟨k1, k2, k3, _⟩ := key j s h w
    exact ⟨k1, k2, k3⟩
theorem body_rv {r : Rv} {res : Res} {v : V} (hl : as.length = vs.length) (nf : ∀ (i : Nat) (s : Sl), as[i]? = some s → s.fresh = false) (ok : Ok K T S') (g : Go ⟨F0, as ++ List.replicate m .no, L2.start N vs, H⟩ S') (h : rvR K H S' r v) (e : clR S'.ρ r = some res) :
    ∃ r', res.rv = some r' ∧ rvR K H ⟨S'.F, outs as S'.ρ, vs.map some, S'.H⟩ r' v := by
  obtain ⟨_, _, _, key⟩ := body_end hl nf ok g
  have own_ : ∀ a, Own ⟨S'.F, outs as S'.ρ, vs.map some, S'.H⟩ a → ∃ (j : Nat) (s : Sl), S'.ρ[j]? = some s ∧ s.owned = true ∧ s.fresh = false ∧ S'.σ[j]? = some (some (.ref a)) := fun a ⟨j, s, h1, w, h2⟩ => by
    obtain ⟨k1, k2, k3⟩ := key j s h1 w
    exact ⟨j, s, k1, w, k2, by rw [← k3]; exact h2⟩
  cases r with
  | val d => cases e; exact ⟨_, rfl, h⟩
  | new xs =>
    cases e
    obtain ⟨p, us, h1, h2, h3, h4, h5, h6⟩ := h
    exact ⟨_, rfl, p, us, h1, h2, h3, h4, h5, fun z => by
      obtain ⟨j, s, c1, c2, _, c3⟩ := own_ p z
      exact h6 ⟨j, s, c1, c2, c3⟩⟩
  | nob s0 =>
    cases e
    obtain ⟨p, us, h1, h2, h3, h4, h5, h7, h6⟩ := h
    exact ⟨_, rfl, p, us, h1, h2, h3, h4, h5, h7, fun z => by
      obtain ⟨j, s, c1, c2, _, c3⟩ := own_ p z
      exact h6 ⟨j, s, c1, c2, c3⟩⟩
  | own i =>
    have e : (match S'.ρ[i]? with | some (.ow true xs) => some (Res.new xs) | some (.sh d) => some (.val d) | some (.dk true kvs) => some (.nob (.dk true kvs)) | some (.dt true kvs) => some (.nob (.dt true kvs)) | _ => none) = some res := e
    have dd : ∀ s : Sl, s.owned = true → s.fresh = true → S'.ρ[i]? = some s → rvR K H ⟨S'.F, outs as S'.ρ, vs.map some, S'.H⟩ (.nob s) v := fun s w fr q => by
      obtain ⟨p, u, h1, h2, h3, h4⟩ := (ok.slot i _ q).at w
      have hv : S'.σ[i]? = some (some v) := h
      rw [hv] at h1
      have ev : v = .ref p := Option.some.inj (Option.some.inj h1)
      refine ⟨p, u, ev, ?_, h2, h3, h4, w, fun z => ?_⟩
      · rcases g.fr p ⟨i, _, q, w, fr, by rw [hv, ev]⟩ with z | z
        · exact (ofr_body nf z).elim
        · exact z
      · obtain ⟨j, s', c1, c2, c4, c3⟩ := own_ p z
        have ej := ok.dis j i s' _ p c1 q c2 w c3 (by rw [hv, ev])
        subst ej
        rw [c1] at q; cases q
        rw [fr] at c4; cases c4
    split at e
    · rename_i xs q
      cases e
      obtain ⟨p, us, h1, h2, h3, h4⟩ := ok.slot i _ q
      have hv : S'.σ[i]? = some (some v) := h
      rw [hv] at h1
      have ev : v = .ref p := Option.some.inj (Option.some.inj h1)
      refine ⟨_, rfl, p, us, ev, ?_, h2, h3, h4, fun z => ?_⟩
      · rcases g.fr p ⟨i, _, q, rfl, rfl, by rw [hv, ev]⟩ with z | z
        · exact (ofr_body nf z).elim
        · exact z
      · obtain ⟨j, s, c1, c2, c4, c3⟩ := own_ p z
        have ej := ok.dis j i s _ p c1 q c2 rfl c3 (by rw [hv, ev])
        subst ej
        rw [c1] at q; cases q; cases c4
    · rename_i d q
      cases e
      obtain ⟨v', h1, h2⟩ := ok.slot i _ q
      have hv : S'.σ[i]? = some (some v) := h
      rw [hv] at h1
      rw [← Option.some.inj (Option.some.inj h1)] at h2
      exact ⟨_, rfl, h2⟩
    · rename_i kvs q
      cases e
      exact ⟨_, rfl, dd _ rfl rfl q⟩
    · rename_i kvs q
      cases e
      exact ⟨_, rfl, dd _ rfl rfl q⟩
    · cases e
end
abbrev cxD (P : Program) (w : World) (K : PySem.W.Frag) (mg : Str → Option Value) (base : Heap) (N : List Str) (qual : Str) (st : Stmt) (f : Addr) (cdv : Value) (A : Around) (outer : List Env) (s : Shared) (H : Hp) (E : XK) : Cx :=
  cxOf (L2N.CX P w) P w K mg base N qual (defScope st) f cdv A outer s H E
theorem okN {P : Program} {w : World} {K : PySem.W.Frag} {mg : Str → Option Value} {base : Heap} {x qual : Str} {st : Stmt} {f : Addr} {fd : FuncData} {N ps : List Str} {k : Nat} {sp : Sp} (F : Fun K x qual st f fd) (Sc : FnScope N ps (defScope st)) (len : ∀ vs H Q E, sp vs H Q E → vs.length = ps.length)
    (hb : ∀ (cdv : Value) (A : Around) (outer : List Env) (s : Shared) (H : Hp) (vs : List V) (Q : VK) (E : XK), Room k (A.deeper (envOfC qual (defScope st) s.heap.objs.size f cdv)) → sp vs H Q E →
      ∃ t, PSs (cxOf (L2N.CX P w) P w K mg base N qual (defScope st) f cdv A outer s H E) (defBody st) t ∧ t { nx := fun _ H' => Q .non H', rt := Q } (L2.start N vs) H) : FnOk P w K mg base (L2N.CX P w) (k + 1) f fd ps sp := by
  obtain ⟨oc, od, kV, doc, pm, an, cdv, ct, osl, rfl, lk, hcd⟩ := F.ex
  exact fn_of lk hcd Sc len fun A outer s H vs Q E => hb cdv A outer s H vs Q E
theorem dfun {P : Program} {w : World} {K : PySem.W.Frag} {mg : Str → Option Value} {base : Heap} {x qual : Str} {st : Stmt} {f : Addr} {fd : FuncData} {N ps : List Str} {k n : Nat} {T : Tz} {sp : DSp} (F : Fun K x qual st f fd) (Sc : FnScope N ps (defScope st)) (hn : ps.length = n)
    (t : (Er → List Sl → Prop) → TSd)
    (hw : ∀ (cdv : Value) (A : Around) (outer : List Env) (s : Shared) (H : Hp) (E : XK) (S0 : Sx) (W : WX) (R : Er → List Sl → Prop), PSsd ⟨cxD P w K mg base N qual st f cdv A outer s H E, T, S0, W, R, k⟩ (defBody st) (t R))
    (law : ∀ as Rr, as.length = n → sp as Rr → t (fun er ρ => Rr (.er er) (outs as ρ)) (bodyEd as Rr) (as ++ List.replicate (N.length - n) .no)) :
    FnOk P w K mg base (L2N.CX P w) (k + 1) f fd ps (toSp K T n sp) := by
  refine okN F Sc (fun vs H Q E h => h.1.trans hn.symm) fun cdv A outer s H vs Q E hr h => ?_
  obtain ⟨hl, F0, as, Rr, ok, nf, hsp, ke, kx⟩ := h
  refine ⟨wSs _ (defBody st), pss_w, ?_⟩
  have hal : as.length = vs.length := by simpa using ok.len
  have okb := Ok.body (N := N) ok rfl
  let S0 : Sx := ⟨F0, as ++ List.replicate (N.length - vs.length) .no, L2.start N vs, H⟩
  let C : Cd := ⟨cxD P w K mg base N qual st f cdv A outer s H E, T, S0, fun cls d _ H => E cls d H, fun er ρ => Rr (.er er) (outs as ρ), k⟩
  have wf : C.Wf := by
    refine ⟨L2N.takes_of rfl rfl rfl rfl, hr, rfl, Sc.nd, PassesOwn.leaving, fun er S cls d q ok' g' hE => ?_⟩
    obtain ⟨o1, g1, p1, _⟩ := body_end (N := N) hal nf ok' g'
    exact kx er S.F _ S.H cls d q o1 g1 p1 hE
  have q := law as Rr (hal.trans hl) hsp
  rw [← hl] at q
  refine hw cdv A outer s H E S0 _ _ wf S0 _ _ okb (Go.refl _) q ⟨fun S' a b c => ?_, fun S' a _ _ => a.elim, fun S' a _ _ => a.elim, fun r v S' a b c d => ?_⟩
  · obtain ⟨o1, g1, p1, _⟩ := body_end (N := N) hal nf b c
    exact ke _ (.val .non) .non S'.F _ S'.H a rfl o1 g1 p1 .non
  · have a : optR Rr (outs as S'.ρ) (clR S'.ρ r) := a
    cases e : clR S'.ρ r with
    | none => rw [e] at a; exact a.elim
    | some res =>
      rw [e] at a
      obtain ⟨o1, g1, p1, _⟩ := body_end (N := N) hal nf b c
      obtain ⟨r', e1, r1⟩ := body_rv hal nf b c d e
      exact ke res r' v S'.F _ S'.H a e1 o1 g1 p1 r1
end DL
/-! enumerate of a tuple -/
namespace DL
open PySem PySem.Spec PyProof.Rows L2
theorem meets_enum1 {v : Value} {o : Obj} {H : Heap → Prop} (B : Begins v o H) :
    Meets (Builtin.«enumerate.__new__» ⟨[.type "enumerate", v], []⟩) (fun _ R s => H s.heap ∧
      R (.ok (.ret (.ref (s.heap.push o).objs.size))) { s with heap := (s.heap.push o).push { cls := .type "enumerate", data := .fields #[.none, .bool false, .ref s.heap.objs.size, rawInt 0, .none, .none] } }) :=
  .of_wp fun prog w A R s h => by
    obtain ⟨hp, g, d, tk, os⟩ := s
    obtain ⟨h1, h⟩ := h
    have hsub := sub_enumerate
    have q1 : ∀ {A' : Around} {E : Value → Shared → Prop} {Q : Value → Shared → Prop}, Q (.ref hp.objs.size) ⟨hp.push o, g, d, tk, os⟩ → wpAny (model prog w) A' (pyIter v) Q E ⟨hp, g, d, tk, os⟩ :=
      fun q => B.iter prog w _ _ ⟨hp, g, d, tk, os⟩ _ h1 q
    wp_walk using q1
    refine wpAny_stack_any fun st => wpAny_pure ?_
    split
    · rename_i c _ _ _ _ _
      cases (c == Value.type "enumerate")
      · wp_walk using q1
        exact ⟨_, rfl, h⟩
      · wp_walk using q1
        exact ⟨_, rfl, h⟩
    · wp_walk using q1
      exact ⟨_, rfl, h⟩
theorem call_enum1 {prog : Program} {w : World} {A : Around} {E : Value → Shared → Prop} {s : Shared} {v : Value} {o : Obj} {H : Heap → Prop} {Q : Value → Shared → Prop} (B : Begins v o H) (h1 : H s.heap)
    (h : ∀ h', IsEnum h' (s.heap.objs.size + 1) s.heap.objs.size 0 .none → h'.get? s.heap.objs.size = some o → h'.objs.size = s.heap.objs.size + 2 →
      (∀ b o, s.heap.get? b = some o → h'.get? b = some o) → Q (.ref (s.heap.objs.size + 1)) { s with heap := h' }) :
    wpAny (model prog w) A (call (.type "enumerate") [v]) Q E s := by
  refine callType_new F.called_enumerate (by decide) (F.typeCall_enumerate_1 _) (F.newCall_enumerate_1 _) (fun obj => F.args_object_init_2 obj _) F.entry_enumerate_new (meets_enum1 B) ⟨h1, ?_⟩
  have hz : (s.heap.push o).objs.size = s.heap.objs.size + 1 := Heap.size_push ..
  show _ ∧ _
  rw [hz]
  have he : IsEnum ((s.heap.push o).push { cls := .type "enumerate", data := .fields #[.none, .bool false, .ref s.heap.objs.size, rawInt 0, .none, .none] }) (s.heap.objs.size + 1) s.heap.objs.size 0 .none := by
    have := Heap.get?_push_size (s.heap.push o) (o := { cls := .type "enumerate", data := .fields #[.none, .bool false, .ref s.heap.objs.size, rawInt 0, .none, .none] }) rfl
    rw [hz] at this; exact this
  refine ⟨⟨_, he, rfl⟩, h _ he (Heap.get?_push_of_some _ (Heap.get?_push_size _ B.free)) (by rw [Heap.size_push, hz]) fun b o x => Heap.get?_push_of_some _ (Heap.get?_push_of_some _ x)⟩
def IteT (K : PySem.W.Frag) (a : Addr) : It :=
  ⟨fun i H => ∃ (xs : List V) (x : V), SqT K H a xs ∧ xs[i]? = some x, fun i H v H' => ∃ T x, v = .ref T ∧ H T = none ∧ H' = upd H T (.tup [.int (i : Nat), x]) ∧ ∀ xs, SqT K H a xs → xs[i]? = some x, fun i H => ∃ xs : List V, SqT K H a xs ∧ xs.length = i⟩
theorem turn_enumT {P : Program} {w : World} {K : PySem.W.Frag} {elts : List Expr} {kk : Nat} {tpos : Pos} (a e it : Addr) :
    Turn P w K (.Tuple elts kk tpos) (IteT K a) [e, it] e (fun i h => (∃ old, IsEnum h e it ((i : Nat) : Int) old) ∧ h.IsTupleIter it a i ∧ e ≠ it ∧ a ≠ it ∧ a ≠ e) where
  mem := by simp
  obj := fun i h st b hb => by
    obtain ⟨⟨old, he⟩, ⟨o, ho, hc, hd⟩, _⟩ := st
    have e' : b = e ∨ b = it := by simpa using hb
    rcases e' with z | z
    · rw [z]; exact ⟨_, he, fun v q => nomatch q⟩
    · rw [z]; exact ⟨o, ho, fun v q => by rw [hd] at q; cases q⟩
  keep := fun i h h' st k => let ⟨⟨old, he⟩, hi, hne⟩ := st; ⟨⟨old, k e (by simp) _ he⟩, hi.at fun o q => k it (by simp) o q, hne⟩
  item := by
    intro X hP hw hK hc i pins s σ H E I hf st hg
    subst hP hw hK
    obtain ⟨⟨old, he⟩, hit, hne, hai, hae⟩ := st
    obtain ⟨xs, x, hq, hx⟩ := hg
    obtain ⟨its, rv, p, hz⟩ := I.tuple hq
    obtain ⟨u, hu, ru⟩ := rv.get hx
    have hel : e < s.heap.objs.size := Heap.lt_size he
    have hil : it < s.heap.objs.size := by obtain ⟨_, q, _⟩ := hit; exact Heap.lt_size q
    have D := Draws.tuple (prog := X.prog) (w := X.w) (A := X.A.in1) (I.ok.hd hc) it a hai its.toArray
    have hlt : i < its.toArray.size := by
      have := (List.getElem?_eq_some_iff.mp hu).1
      simpa using this
    refine wpAny_pyNext_enum_itemC D he ⟨hit, p⟩ hlt hne (by simp [hne, Ne.symm hae]) fun u' h' tk hP ho hs' hT hsz hk => ?_
    have eu : u' = u := by
      have hP : its.toArray[i]? = some u' := hP
      rw [show its.toArray[i]? = its[i]? from by simp, hu] at hP
      exact (Option.some.inj hP).symm
    subst eu
    refine ⟨_, rfl, wpAny_letOwnedTupleGo_enum (s := { s with heap := h', toks := tk + 1 }) ho fun h'' he' sb => ?_⟩
    have hT2 : h''.get? s.heap.objs.size = some { cls := .type "tuple", data := .seq #[.int i tk, u'] } := (sb.2 _ (Nat.ne_of_gt hel)).trans hT
    have new : ObjOk X.prog X.w (upd H s.heap.objs.size (.tup [.int (i : Nat), x])) h'' s.heap.objs.size (.tup [.int (i : Nat), x]) :=
      ⟨by show 2 ≤ sizeLine; decide, [.int i tk, u'], .cons ⟨_, rfl⟩ (.cons ru .nil), ⟨_, hT2, rfl, _, rfl⟩⟩
    have I1 : Inv X pins σ (upd H s.heap.objs.size (.tup [.int (i : Nat), x])) { s with heap := h'', toks := tk + 1 } :=
      I.turnedNew (ch := [e, it]) (fun b ob hb q => (sb.2 b (fun z => hb (by simp [z]))).trans (hk b ob (fun z => hb (by simp [z])) (fun z => hb (by simp [z])) q)) hf (Nat.le_refl _) new
    refine ⟨.ref s.heap.objs.size, _, I1, rfl, ⟨_, x, rfl, I.hok.fresh (Nat.le_refl _), rfl, fun ys hy => by rw [I.tuple_inj hy hq]; exact hx⟩, ⟨⟨u', ?_⟩, hs'.1.at fun o q => (sb.2 it (Ne.symm hne)).trans q, hne, hai, hae⟩, fun b hb => ?_⟩
    · have e1 : ((i + 1 : Nat) : Int) = (i : Int) + 1 := by omega
      rw [e1]; exact he'
    · have hb' : b < s.heap.objs.size := by
        have e' : b = e ∨ b = it := by simpa using hb
        rcases e' with z | z
        · rw [z]; exact hel
        · rw [z]; exact hil
      rw [upd_ne (Nat.ne_of_lt hb')]
      exact (hf b hb).1
  done := by
    intro X hP hw hK hc i pins s σ H E I hf st hg
    subst hP hw hK
    obtain ⟨⟨old, he⟩, hit, hne, hai, hae⟩ := st
    obtain ⟨xs, hq, hx⟩ := hg
    obtain ⟨its, rv, p, hz⟩ := I.tuple hq
    obtain ⟨f0, f1, f2, f3, f4, f5⟩ := hf it (by simp)
    have hl := rv.length
    have D := Draws.tuple (prog := X.prog) (w := X.w) (A := X.A.in1) (I.ok.hd hc) it a hai its.toArray
    have hs : its.toArray.size = i := by simp; omega
    subst hs
    exact wpAny_pyNext_enum_endD D he ⟨hit, p⟩ fun h' eb => ⟨rfl, I.turned (t' := s.toks) (fun b o hb q => eb b o hb q) f0 f1 f3 f4 f5⟩
  self := fun A i s Q E st h => let ⟨⟨_, he⟩, _⟩ := st; wpAny_pyIter_enum he h
def iEnumA (K : PySem.W.Frag) (ta : TA) : TI := fun σ H R => ta σ H fun vs H1 => ∃ a xs, vs = [.ref a] ∧ ((SqL K H1 a xs ∧ R (Ite K a) H1) ∨ (SqT K H1 a xs ∧ R (IteT K a) H1))
theorem pi_enumA {X : Cx} {e : Expr} {ta : TA} {p pos tpos : Pos} {elts : List Expr} {kk : Nat} (hg : Gl X "enumerate") (hm : X.mg "enumerate" = none) (ha : PA X [e] ta) (hs : starEach [e] X.env = [(false, eval e X.env)] := by rfl) :
    PI X (.Tuple elts kk tpos) (.Call (.Name "enumerate" p) [e] [] pos) (iEnumA X.K ta) := by
  refine ⟨fun pins s σ H R I h => ?_⟩
  refine Call_ (ld_blt I hg hm boot_enumerate (PyProof.Rows.callWith_type1 (thn (ha.run pos pins s σ H _ I h) fun us s1 ⟨vs, H1, I1, r1, q1⟩ => ?_) hs rfl))
  obtain ⟨a, xs, ex, q⟩ := q1
  subst ex
  cases r1 with
  | cons r rr =>
    cases rr
    cases r
    have fp : ∀ b, b ∈ [s1.heap.objs.size + 1, s1.heap.objs.size] → FpOk X pins H1 b := fun b hb => by
      have e' : b = s1.heap.objs.size + 1 ∨ b = s1.heap.objs.size := by simpa using hb
      have hle : s1.heap.objs.size ≤ b := by
        rcases e' with z | z
        · rw [z]; exact Nat.le_add_right _ _
        · rw [z]; exact Nat.le_refl _
      exact I1.fpOk hle (I1.hok.fresh hle)
    rcases q with ⟨hq, q⟩ | ⟨hq, q⟩
    · obtain ⟨its, rv, p', hz⟩ := I1.list hq
      refine call_enumerate_list p'.isList fun h' he hit hsz hk => wpAny_pyIter_enum he ?_
      have I2 : Inv X pins σ H1 { s1 with heap := h' } := I1.kept (t' := s1.toks) hk
      exact ⟨s1.heap.objs.size + 1, [s1.heap.objs.size + 1, s1.heap.objs.size], _, _, H1, rfl, I2, turn_enum a (s1.heap.objs.size + 1) s1.heap.objs.size, ⟨⟨.none, he⟩, hit, Nat.succ_ne_self _⟩, fp, q⟩
    · obtain ⟨its, rv, p', hz⟩ := I1.tuple hq
      obtain ⟨o1, ho1, _⟩ := id p'
      have la := Heap.lt_size ho1
      refine call_enum1 (begins_tuple a its.toArray) (show s1.heap.IsTuple a its.toArray from p') fun h' he hit hsz hk => wpAny_pyIter_enum he ?_
      have I2 : Inv X pins σ H1 { s1 with heap := h' } := I1.kept (t' := s1.toks) hk
      exact ⟨s1.heap.objs.size + 1, [s1.heap.objs.size + 1, s1.heap.objs.size], _, _, H1, rfl, I2, turn_enumT a (s1.heap.objs.size + 1) s1.heap.objs.size, ⟨⟨.none, he⟩, ⟨_, hit, rfl, rfl⟩, Nat.succ_ne_self _, Nat.ne_of_lt la, Nat.ne_of_lt (Nat.lt_succ_of_lt la)⟩, fp, q⟩
end DL
/-! xs[::-1] of a list or a tuple -/
namespace DL
open PySem PySem.Spec PyProof.Rows L2
section
variable {prog : Program} {w : World} {A : Around} {E : Value → Shared → Prop} {s : Shared}
theorem sliceApplied_rev {sl : Addr} {vl vu vs : Value} {n : Nat} {Q : Int × Int × Nat → Shared → Prop} (hs : s.heap.IsSliceOf sl vl vu vs) (pl : IsPart vl none) (pu : IsPart vu none) (ps : IsPart vs (some (-1)))
    (h : Q ((n : Int) - 1, -1, n) s) : wpAny (model prog w) A (Builtin.Slice.sliceApplied (.ref sl) (pure (n : Int))) Q E s := by
  obtain ⟨os, hos, hcs, hds⟩ := id hs
  unfold Builtin.Slice.sliceApplied Builtin.Slice.sliceFields
  refine wpAny_bind (wpAny_bind (wpAny_field hos hds (x := vl) rfl (wpAny_bind (wpAny_field hos hds (x := vu) rfl (wpAny_bind (wpAny_field hos hds (x := vs) rfl (wpAny_pure ?_)))))))
  refine wpAny_bind (HT.slicePart_ ps ?_)
  show wpAny _ _ (if ((-1 : Int) == 0) = true then _ else _) _ _ s
  rw [if_neg (by decide)]
  refine wpAny_bind (HT.slicePart_ pl (wpAny_bind (HT.slicePart_ pu (wpAny_bind (wpAny_pure ?_)))))
  show wpAny _ _ (match Builtin.Slice.sliceAdjust none none (-1) (n : Int) with | (lo, hi) => pure (lo, (-1 : Int), Builtin.Slice.slicePlaces lo hi (-1))) _ _ s
  have e1 : Builtin.Slice.sliceAdjust none none (-1) (n : Int) = ((n : Int) - 1, -1) := by
    unfold Builtin.Slice.sliceAdjust
    simp
  rw [e1]
  show wpAny _ _ (pure ((n : Int) - 1, (-1 : Int), Builtin.Slice.slicePlaces ((n : Int) - 1) (-1) (-1))) _ _ s
  have e2 : Builtin.Slice.slicePlaces ((n : Int) - 1) (-1) (-1) = n := by
    unfold Builtin.Slice.slicePlaces
    simp
    omega
  rw [e2]
  exact wpAny_pure h
theorem pick_rev (xs : Array Value) : ((List.range xs.size).filterMap fun (m : Nat) => xs[((xs.size : Int) - 1 + (m : Int) * (-1)).toNat]?).toArray = xs.toList.reverse.toArray := by
  congr 1
  have e : ∀ (f : Nat → Option Value) (l : List Nat), (∀ m ∈ l, (f m).isSome) → l.filterMap f = l.map fun m => (f m).getD .none := by
    intro f l
    induction l with
    | nil => intro _; rfl
    | cons a l ih =>
      intro h
      have h1 := h a List.mem_cons_self
      obtain ⟨v, hv⟩ := Option.isSome_iff_exists.mp h1
      rw [List.filterMap_cons, hv, List.map_cons, hv, ih fun m hm => h m (List.mem_cons_of_mem _ hm)]
      rfl
  rw [e]
  · apply List.ext_getElem
    · simp
    · intro i h1 h2
      simp at h1 h2 ⊢
      have : ((xs.size : Int) - 1 + -(i : Int)).toNat = xs.size - 1 - i := by omega
      rw [this, Array.getElem?_eq_getElem (by omega)]
      simp
  · intro m hm
    have hm : m < xs.size := by simpa using hm
    rw [Array.getElem?_eq_getElem (by omega)]
    rfl
theorem getItem_tuple_rev {t sl : Addr} {items : Array Value} {vl vu vs : Value} {Q : Value → Shared → Prop} (ht : IsTup s.heap t items) (hs : s.heap.IsSliceOf sl vl vu vs) (pl : IsPart vl none) (pu : IsPart vu none) (ps : IsPart vs (some (-1)))
    (h : Q (.ref s.heap.objs.size) { s with heap := s.heap.push { cls := .type "tuple", data := .seq items.toList.reverse.toArray } })
    (hsz : items.size ≤ sizeLine) : wpAny (model prog w) A (getItem (.ref t) (.ref sl)) Q E s := by
  have htake : sizeOk (.seq items.toList.reverse.toArray) := by
    show items.toList.reverse.toArray.size ≤ sizeLine
    simpa using hsz
  obtain ⟨os, hos, hcs, hds⟩ := id hs
  have hTs : s.TypeIs (.ref sl) "slice" := ⟨os, hos, hcs⟩
  unfold getItem
  try with_reducible refine wpAny_holding ?_
  first | refine wpAny_bind (wpAny_pure ?_) | skip
  refine wpAny_bind (wpAny_sequenceKey ht.typeIs (by decide) ?_)
  refine wpAny_bind (wpAny_callSpecial?_slot (name := Str.ofString "__getitem__") ht.typeIs PyProof.Rows.slot_tuple_getitem
    (wpAny_call_entry PyProof.Rows.slot_tuple_getitem ht.typeIs entry_tuple_getitem ?_ (args_tuple_getitem _ _)))
  show wpAny _ _ (Builtin.Tuple.tupleItemsOf (.ref t) >>= _) _ _ s
  refine wpAny_bind (tupleItemsOf_ ht ?_)
  refine wpAny_bind (wpAny_typeOf hTs ?_)
  rw [if_pos (by decide)]
  refine wpAny_bind (sliceApplied_rev hs pl pu ps ?_)
  have hno : ¬ ((((items.size : Int) - 1) == 0 && (-1 : Int) == 1 && items.size == items.size) = true) := by
    simp
  show wpAny _ _ (if (((items.size : Int) - 1) == 0 && (-1 : Int) == 1 && items.size == items.size) = true then _ else _) _ _ s
  rw [if_neg hno, pick_rev]
  first
    | exact wpAny_bind (m := Builtin.Tuple.tupleExact _) (wpAny_newObj_type (wpAny_pure ⟨_, rfl, wpAny_pure h⟩) htake)
    | exact wpAny_bind (m := Builtin.Tuple.tupleExact _) (wpAny_newObj_type (wpAny_bind (wpAny_pure (wpAny_pure ⟨_, rfl, wpAny_pure h⟩))) htake)
    | exact wpAny_bind (wpAny_bind (m := Builtin.Tuple.tupleExact _) (wpAny_newObj_type (wpAny_pure (wpAny_pure ⟨_, rfl, wpAny_pure h⟩)) htake))
    | exact wpAny_bind (wpAny_bind (m := Builtin.Tuple.tupleExact _) (wpAny_newObj_type (wpAny_pure ⟨_, rfl, wpAny_pure h⟩) htake))
end
section
variable {X : Cx}
def tRev (K : PySem.W.Frag) (te : TE) : TE := fun σ H Q => te σ H fun x H1 => ∃ a xs, x = .ref a ∧ ((SqL K H1 a xs ∧ ∀ p, H1 p = none → Q (.ref p) (upd H1 p (.lst xs.reverse))) ∨ (SqT K H1 a xs ∧ ∀ p, H1 p = none → Q (.ref p) (upd H1 p (.tup xs.reverse))))
theorem pe_rev {e : Expr} {te : TE} {k : Nat} {p1 p2 p3 pos : Pos} (he : PE X e te) : PE X (.Subscript e (.Slice none none (some (.UnaryOp .USub (.Constant (.int 1) k p1) p2)) p3) pos) (tRev X.K te) := by
  refine ⟨fun pins s σ H Q I h => ?_⟩
  refine Subscript_ (thn (he.run pins s σ H _ I h) fun v s1 ⟨x, H1, I1, r1, q1⟩ => ?_)
  obtain ⟨a, xs, ex, q⟩ := q1
  subst ex
  cases r1
  have hst : PO X (some (.UnaryOp .USub (.Constant (.int 1) k p1) p2)) (tPart (tUn (rU fun i => .int (-i)) (tC (.int 1)))) := po_some (pe_un un_neg pe_int)
  refine wpAny_Slice (thn (po_none.run pins s1 σ H1 (fun o H2 => o = none ∧ H2 = H1) I1 ⟨rfl, rfl⟩) fun vl s2 ⟨l, H2, I2, pl, el, e2⟩ => ?_)
  subst el e2
  refine thn (po_none.run pins s2 σ H2 (fun o H3 => o = none ∧ H3 = H2) I2 ⟨rfl, rfl⟩) fun vu s3 ⟨u, H3, I3, pu, eu, e3⟩ => ?_
  subst eu e3
  refine thn (hst.run pins s3 σ H3 (fun o H4 => o = some (-1) ∧ H4 = H3) I3 ⟨1, rfl, -1, rfl, rfl, rfl⟩) fun vs s4 ⟨o, H4, I4, ps, eo, e4⟩ => ?_
  subst eo e4
  have I5 : Inv X pins σ H4 { s4 with heap := s4.heap.push { cls := .type "slice", data := .fields #[vl, vu, vs] } } := I4.kept (t' := s4.toks) fun b ob q => Heap.get?_push_of_some _ q
  show wpAny (model X.prog X.w) X.A (subscriptTail e (.Slice none none (some (.UnaryOp .USub (.Constant (.int 1) k p1) p2)) p3) (.ref a) (.ref s4.heap.objs.size)) (EP X pins σ Q) X.xe { s4 with heap := s4.heap.push { cls := .type "slice", data := .fields #[vl, vu, vs] } }
  rcases q with ⟨hx, q⟩ | ⟨hx, q⟩
  · obtain ⟨its, r, ht, hz⟩ := I5.list hx
    have hlen := r.length
    refine tail_any (ops := [.ref a, .ref s4.heap.objs.size]) ht.isList.typeIs (PySem.slot_list_getitem.lookup) ?_ (by with_unfolding_all rfl)
    refine wpAny_getItem_list_slice ht.isList (Heap.IsSliceOf.new _ vl vu vs) pl pu ps (by decide) ?_ (by rw [List.size_toArray]; omega)
    rw [PySem.W.krv_pick]
    refine ⟨.ref _, _, I5.laid (t' := s4.toks) (o := .lst xs.reverse) (fun b ob q => Heap.get?_push_of_some _ q) (Nat.le_refl _) ?_, rfl, q _ (I5.hok.fresh (Nat.le_refl _))⟩
    exact ⟨by rw [List.length_reverse]; exact hz, _, 0, r.reverse, Heap.get?_push_size _ rfl⟩
  · obtain ⟨its, r, ht, hz⟩ := I5.tuple hx
    have hlen := r.length
    refine tail_any (ops := [.ref a, .ref s4.heap.objs.size]) ht.typeIs (PyProof.Rows.slot_tuple_getitem.lookup) ?_ (by with_unfolding_all rfl)
    refine getItem_tuple_rev ht (Heap.IsSliceOf.new _ vl vu vs) pl pu ps ?_ (by rw [List.size_toArray]; omega)
    refine ⟨.ref _, _, I5.laid (t' := s4.toks) (o := .tup xs.reverse) (fun b ob q => Heap.get?_push_of_some _ q) (Nat.le_refl _) ?_, rfl, q _ (I5.hok.fresh (Nat.le_refl _))⟩
    exact ⟨by rw [List.length_reverse]; exact hz, _, r.reverse, IsTup.new _ _⟩
end
section
variable {C : Cd} {e : Expr} {te : TEd}
def revO (Q : Rv → Prop) : Option D → Prop
  | some (.lst xs) => Q (.new xs.reverse)
  | some (.tup xs) => Q (.val (.tup xs.reverse))
  | _ => False
def rRev (te : TEd) : TEd := fun ρ Q => te ρ fun r ρ1 => revO (fun r' => Q r' ρ1) (rd ρ1 r)
theorem d_rev {k : Nat} {p1 p2 p3 pos : Pos} (he : PEd C e te) : PEd C (.Subscript e (.Slice none none (some (.UnaryOp .USub (.Constant (.int 1) k p1) p2)) p3) pos) (rRev te) := by
  intro c S Q Q' ok g0 h kk
  refine wE.of (pe_rev pe_w) ?_
  refine he c S _ _ ok g0 h fun x v F1 ρ1 H1 h1 ok1 g1 r1 => ?_
  obtain ⟨F1', ok1', g1', _, gF, r1'⟩ := settle ok1 g1 r1
  have kq : ∀ r v F' H', Q r ρ1 → Ok C.X.K C.T ((S.to F1' ρ1 H1).to F' ρ1 H') → Go (S.to F1' ρ1 H1) ((S.to F1' ρ1 H1).to F' ρ1 H') → rvR C.X.K H1 ((S.to F1' ρ1 H1).to F' ρ1 H') r v → Q' v H' :=
    fun r v F' H' qq okk g rr => kk r v F' ρ1 H' qq okk (g1'.trans g) (rr.start fun a z => g1'.dom a z)
  have h1 : revO (fun r' => Q r' ρ1) (rd ρ1 x) := h1
  cases e1 : rd ρ1 x with
  | none => rw [e1] at h1; exact h1.elim
  | some d =>
    rw [e1] at h1
    rw [← rd_stl] at e1
    have sh := ok1'.rd r1' e1
    cases d with
    | lst xs =>
      obtain ⟨p, vs, rfl, h4, rr⟩ := sh.lst ok1'
      exact ⟨p, vs, rfl, .inl ⟨SqL.of h4, fun l' hl' => fin_new (C := C) (S := S.to F1' ρ1 H1) (Q := fun r => Q r ρ1) ok1' kq h1 rr.reverse hl'⟩⟩
    | tup xs =>
      obtain ⟨p, vs, rfl, f4, h4, rr⟩ := sh.tup ok1'
      exact ⟨p, vs, rfl, .inr ⟨sqt_rd h4, fun l' hl' => fin_tup (C := C) (S := S.to F1' ρ1 H1) (Q := fun r => Q r ρ1) ok1' kq h1 rr.reverse hl'⟩⟩
    | non => exact h1.elim
    | bl _ => exact h1.elim
    | int _ => exact h1.elim
    | _ => exact h1.elim
end
end DL
/-! enumerate, zip; dicts; bags -/
namespace DL
open PySem PySem.Spec PyProof.Rows L2

/-! ### enumerate, zip -/
theorem lay_tup {K : PySem.W.Frag} {T : Tz} {S : Sx} {vs : List V} {xs : List D} {p : Addr} (ok : Ok K T S) (r : RpL K S.F vs xs) (hp : S.H p = none) :
    Ok K T (S.to (upd S.F p (.tup vs)) S.ρ (upd S.H p (.tup vs))) ∧ Go S (S.to (upd S.F p (.tup vs)) S.ρ (upd S.H p (.tup vs))) ∧ Rp K (upd S.F p (.tup vs)) (.ref p) (.tup xs) := by
  have hf := ok.freeN hp
  have ok1 : Ok K T (S.to S.F S.ρ (upd S.H p (.tup vs))) := ok.laid hp
  exact ⟨Ok.grow (S := S.to S.F S.ρ (upd S.H p (.tup vs))) ok1 upd_same hf (ok.noOwn hp), Go.grow (S := S.to S.F S.ρ (upd S.H p (.tup vs))) (Go.laid hp) hf hp, .tup (.inl upd_same) (RpL.mono (G.new hf) _ _ r)⟩
def enO (Q : Its → List Sl → Prop) (ρ : List Sl) : List Rv → Prop
  | [r] => seqO itE Q (cl1 ρ r)
  | _ => False
def iEnm (ta : TAd) : TId := fun ρ Q => ta ρ fun rs ρ1 => enO Q ρ1 rs
theorem rpl_at {K : PySem.W.Frag} {F : Hp} {vs : List V} {ds : List D} {i : Nat} (r : RpL K F vs ds) (hi : i < ds.length) : ∃ v d, vs[i]? = some v ∧ ds[i]? = some d ∧ Rp K F v d := by
  have hd : ds[i]? = some ds[i] := List.getElem?_eq_getElem hi
  obtain ⟨v, h1, h2⟩ := r.get hd
  exact ⟨v, _, h1, hd, h2⟩
theorem it_enumL {K : PySem.W.Frag} {T : Tz} {S : Sx} {a : Addr} {vs : List V} {ds : List D} (h : S.F a = some (.lst vs)) (r : RpL K S.F vs ds) : ItOk K T (itE ds) (Ite K a) S := fun S' ok g => by
  have hF : S'.F a = some (.lst vs) := g _ _ h (fun _ z => by cases z)
  have q : SqL K S'.H a vs := SqL.of (ok.sub _ _ hF)
  have r' := RpL.mono g _ _ r
  refine ⟨fun i hi => ?_, ⟨vs, q, Nat.le_of_eq r.length⟩, fun i x H' hi y => ?_⟩
  · obtain ⟨v, d, e1, e2, e3⟩ := rpl_at r' hi
    exact ⟨vs, v, q, e1⟩
  · obtain ⟨Tp, x', rfl, hT, rfl, hx⟩ := y
    obtain ⟨v, d, e1, e2, e3⟩ := rpl_at r' hi
    have := hx vs q
    rw [e1] at this
    cases this
    obtain ⟨o1, o2, o3⟩ := lay_tup ok (.cons (.int (i : Nat)) (.one e3)) hT
    exact ⟨_, _, ⟨d, e2, rfl⟩, o1, o2, o3⟩
theorem it_enumT {K : PySem.W.Frag} {T : Tz} {S : Sx} {a : Addr} {vs : List V} {ds : List D} (h : Rd S.F a (.tup vs)) (r : RpL K S.F vs ds) : ItOk K T (itE ds) (IteT K a) S := fun S' ok g => by
  have hF : Rd S'.F a (.tup vs) := g.rd (fun _ z => by cases z) h
  have q : SqT K S'.H a vs := sqt_rd (Rd.sub hF ok.sub)
  have r' := RpL.mono g _ _ r
  refine ⟨fun i hi => ?_, ⟨vs, q, r.length⟩, fun i x H' hi y => ?_⟩
  · obtain ⟨v, d, e1, e2, e3⟩ := rpl_at r' hi
    exact ⟨vs, v, q, e1⟩
  · obtain ⟨Tp, x', rfl, hT, rfl, hx⟩ := y
    obtain ⟨v, d, e1, e2, e3⟩ := rpl_at r' hi
    have := hx vs q
    rw [e1] at this
    cases this
    obtain ⟨o1, o2, o3⟩ := lay_tup ok (.cons (.int (i : Nat)) (.one e3)) hT
    exact ⟨_, _, ⟨d, e2, rfl⟩, o1, o2, o3⟩
section
variable {C : Cd} {e e2 : Expr} {te te2 : TEd} {pos p tpos : Pos} {elts : List Expr} {kk : Nat}
theorem rvL_rv {K : PySem.W.Frag} {S : Sx} {Hs : Hp} {r : Rv} {rs : List Rv} {v : V} {vs : List V} (h : rvL K S (r :: rs) (v :: vs)) : rvR K Hs S r v ∧ rvL K S rs vs := by
  cases r with
  | val d => exact h
  | own i => exact h
  | new xs => exact (show False from h).elim
  | nob s => exact (show False from h).elim
theorem di_enum (hg : Gl C.X "enumerate") (hm : C.X.mg "enumerate" = none) (ha : PEd C e te) (hs : starEach [e] C.X.env = [(false, eval e C.X.env)] := by rfl) :
    PId C (.Tuple elts kk tpos) (.Call (.Name "enumerate" p) [e] [] pos) (iEnm (rCons te rNil)) := fun c S Q R' ok g0 h k => by
  refine wI.of (pi_enumA hg hm pa_w hs) ?_
  refine (da_cons ha da_nil (by rw [hs]; rfl)) c S _ _ ok g0 h fun rs vs F1 ρ1 H1 q1 ok1 g1 r1 hl => ?_
  cases rs with
  | nil => exact (show False from q1).elim
  | cons r rs =>
    cases rs with
    | cons _ _ => exact (show False from q1).elim
    | nil =>
      cases vs with
      | nil => exact absurd hl (by simp)
      | cons v vs =>
        cases vs with
        | cons _ _ => exact absurd hl (by simp)
        | nil =>
          obtain ⟨ds, ρ2, e1, q⟩ := seqO_some (show seqO itE Q (cl1 ρ1 r) from q1)
          have r1 := (rvL_rv (Hs := S.H) r1).1
          rcases e1 with e1 | e1
          · obtain ⟨F2, ok2, g2, gF, rr⟩ := clean (S0 := S) (S := S.to F1 ρ1 H1) ok1 g1 r1 e1
            cases rr with
            | lst h1 r2 => exact ⟨_, _, rfl, .inl ⟨SqL.of (ok2.sub _ _ h1), k _ _ F2 ρ2 H1 q ok2 g2 (it_enumL (S := S.to F2 ρ2 H1) h1 r2)⟩⟩
          · obtain ⟨F2, ok2, g2, gF, rr⟩ := clean (S0 := S) (S := S.to F1 ρ1 H1) ok1 g1 r1 e1
            cases rr with
            | tup h1 r2 => exact ⟨_, _, rfl, .inr ⟨sqt_rd (Rd.sub h1 ok2.sub), k _ _ F2 ρ2 H1 q ok2 g2 (it_enumT (S := S.to F2 ρ2 H1) h1 r2)⟩⟩
def zipO (Q : Its → List Sl → Prop) : Option (List D × List Sl) → Prop
  | some ([.lst xs, .lst ys], ρ) => Q (itZ xs ys) ρ
  | some ([.tup xs, .tup ys], ρ) => Q (itZ xs ys) ρ
  | _ => False
def iZp (ta : TAd) : TId := fun ρ Q => ta ρ fun rs ρ1 => zipO Q (clL ρ1 rs)
theorem it_zipL {K : PySem.W.Frag} {T : Tz} {S : Sx} {a b : Addr} {vs us : List V} {ds es : List D} (h : S.F a = some (.lst vs)) (r : RpL K S.F vs ds) (h' : S.F b = some (.lst us)) (r' : RpL K S.F us es) : ItOk K T (itZ ds es) (Itz K a b) S := fun S' ok g => by
  have q1 : SqL K S'.H a vs := SqL.of (ok.sub _ _ (g _ _ h (fun _ z => by cases z)))
  have q2 : SqL K S'.H b us := SqL.of (ok.sub _ _ (g _ _ h' (fun _ z => by cases z)))
  have s1 := RpL.mono g _ _ r
  have s2 := RpL.mono g _ _ r'
  have l1 := r.length
  have l2 := r'.length
  refine ⟨fun i hi => ?_, ⟨vs, us, q1, q2, ?_⟩, fun i x H' hi y => ?_⟩
  · have hi : i < min ds.length es.length := hi
    obtain ⟨v, d, e1, _, _⟩ := rpl_at s1 (i := i) (by omega)
    obtain ⟨u, d', e2, _, _⟩ := rpl_at s2 (i := i) (by omega)
    exact ⟨vs, us, v, u, q1, q2, e1, e2⟩
  · show vs.length ≤ min ds.length es.length ∨ us.length ≤ min ds.length es.length
    omega
  · have hi : i < min ds.length es.length := hi
    obtain ⟨Tp, x', y', rfl, hT, rfl, hx, hy⟩ := y
    obtain ⟨v, d, e1, e2, e3⟩ := rpl_at s1 (i := i) (by omega)
    obtain ⟨u, d', e4, e5, e6⟩ := rpl_at s2 (i := i) (by omega)
    have z1 := hx vs q1
    rw [e1] at z1
    cases z1
    have z2 := hy us q2
    rw [e4] at z2
    cases z2
    obtain ⟨o1, o2, o3⟩ := lay_tup ok (.cons e3 (.one e6)) hT
    exact ⟨_, _, ⟨d, d', e2, e5, rfl⟩, o1, o2, o3⟩
theorem it_zipT {K : PySem.W.Frag} {T : Tz} {S : Sx} {a b : Addr} {vs us : List V} {ds es : List D} (h : Rd S.F a (.tup vs)) (r : RpL K S.F vs ds) (h' : Rd S.F b (.tup us)) (r' : RpL K S.F us es) : ItOk K T (itZ ds es) (RZ.ItzT K a b) S := fun S' ok g => by
  have q1 : SqT K S'.H a vs := sqt_rd (Rd.sub (g.rd (fun _ z => by cases z) h) ok.sub)
  have q2 : SqT K S'.H b us := sqt_rd (Rd.sub (g.rd (fun _ z => by cases z) h') ok.sub)
  have s1 := RpL.mono g _ _ r
  have s2 := RpL.mono g _ _ r'
  have l1 := r.length
  have l2 := r'.length
  refine ⟨fun i hi => ?_, ⟨vs, us, q1, q2, ?_⟩, fun i x H' hi y => ?_⟩
  · have hi : i < min ds.length es.length := hi
    obtain ⟨v, d, e1, _, _⟩ := rpl_at s1 (i := i) (by omega)
    obtain ⟨u, d', e2, _, _⟩ := rpl_at s2 (i := i) (by omega)
    exact ⟨vs, us, v, u, q1, q2, e1, e2⟩
  · show vs.length ≤ min ds.length es.length ∨ us.length ≤ min ds.length es.length
    omega
  · have hi : i < min ds.length es.length := hi
    obtain ⟨Tp, x', y', rfl, hT, rfl, hx, hy⟩ := y
    obtain ⟨v, d, e1, e2, e3⟩ := rpl_at s1 (i := i) (by omega)
    obtain ⟨u, d', e4, e5, e6⟩ := rpl_at s2 (i := i) (by omega)
    have z1 := hx vs q1
    rw [e1] at z1
    cases z1
    have z2 := hy us q2
    rw [e4] at z2
    cases z2
    obtain ⟨o1, o2, o3⟩ := lay_tup ok (.cons e3 (.one e6)) hT
    exact ⟨_, _, ⟨d, d', e2, e5, rfl⟩, o1, o2, o3⟩
theorem zipO_some {Q : Its → List Sl → Prop} {o : Option (List D × List Sl)} (h : zipO Q o) : ∃ xs ys ρ, (o = some ([.lst xs, .lst ys], ρ) ∨ o = some ([.tup xs, .tup ys], ρ)) ∧ Q (itZ xs ys) ρ := by
  unfold zipO at h
  split at h
  · exact ⟨_, _, _, .inl rfl, h⟩
  · exact ⟨_, _, _, .inr rfl, h⟩
  · exact h.elim
theorem di_zip (hg : Gl C.X "zip") (hm : C.X.mg "zip" = none) (ha : PEd C e te) (hb : PEd C e2 te2)
    (hs : starEach [e, e2] C.X.env = (false, eval e C.X.env) :: starEach [e2] C.X.env := by rfl) (hs2 : starEach [e2] C.X.env = (false, eval e2 C.X.env) :: starEach [] C.X.env := by rfl) (hpl : (backTo pos (starEach [e2] C.X.env)).any (·.1) = false := by rfl) :
    PId C (.Tuple elts kk tpos) (.Call (.Name "zip" p) [e, e2] [] pos) (iZp (rCons te (rCons te2 rNil))) := fun c S Q R' ok g0 h k => by
  refine wI.of (RZ.pi_zipA hg hm pa_w hs hpl) ?_
  refine (da_cons ha (da_cons hb da_nil hs2) hs) c S _ _ ok g0 h fun rs vs F1 ρ1 H1 q1 ok1 g1 r1 hl => ?_
  obtain ⟨xs, ys, ρ2, e1, q⟩ := zipO_some (show zipO Q (clL ρ1 rs) from q1)
  rcases e1 with e1 | e1
  · obtain ⟨F2, ok2, g2, gF, rr⟩ := cleanL (S0 := S) ok1 g1 r1 e1
    cases rr with
    | cons ra rr =>
      cases rr with
      | cons rb rr =>
        cases rr
        cases ra with
        | lst h1 r2 =>
          cases rb with
          | lst h3 r4 => exact ⟨_, _, _, _, rfl, .inl ⟨SqL.of (ok2.sub _ _ h1), SqL.of (ok2.sub _ _ h3), k _ _ F2 ρ2 H1 q ok2 g2 (it_zipL (S := S.to F2 ρ2 H1) h1 r2 h3 r4)⟩⟩
  · obtain ⟨F2, ok2, g2, gF, rr⟩ := cleanL (S0 := S) ok1 g1 r1 e1
    cases rr with
    | cons ra rr =>
      cases rr with
      | cons rb rr =>
        cases rr
        cases ra with
        | tup h1 r2 =>
          cases rb with
          | tup h3 r4 => exact ⟨_, _, _, _, rfl, .inr ⟨sqt_rd (Rd.sub h1 ok2.sub), sqt_rd (Rd.sub h3 ok2.sub), k _ _ F2 ρ2 H1 q ok2 g2 (it_zipT (S := S.to F2 ρ2 H1) h1 r2 h3 r4)⟩⟩
end

/-! ### bags -/
def bagOut (i : Nat) (k : List Sl → Prop) (ρ : List Sl) : Prop := ∃ f a b c n, ρ[i]? = some (.ow f [.int a, .int b, .int c]) ∧ BagOk n a b c ∧ k (ρ.set i (.bg f n))
def bagEd (i : Nat) (E : Ed) : Ed := ⟨bagOut i E.nx, fun r => bagOut i (E.rt r), bagOut i E.bk, bagOut i E.ct⟩
def rBag (i : Nat) (t : TSd) : TSd := fun E ρ => ∃ f n, ρ[i]? = some (.bg f n) ∧ ∀ a b c, BagOk n a b c → t (bagEd i E) (ρ.set i (.ow f [.int a, .int b, .int c]))
theorem reslot {K : PySem.W.Frag} {T : Tz} {S : Sx} {i : Nat} {s s' : Sl} {v : V} (ok : Ok K T S) (h : S.ρ[i]? = some s) (w : s.owned = true) (w' : s'.owned = true) (f : s'.fresh = s.fresh) (hs : slR K S.F S.H s' S.σ[i]?) :
    Ok K T ⟨S.F, S.ρ.set i s', S.σ, S.H⟩ ∧ Go S ⟨S.F, S.ρ.set i s', S.σ, S.H⟩ ∧ (∀ r Hs, rvR K Hs S r v → rvR K Hs ⟨S.F, S.ρ.set i s', S.σ, S.H⟩ r v) := by
  have at_ : ∀ (j : Nat) (t : Sl), (S.ρ.set i s')[j]? = some t → t.owned = true → ∃ t', S.ρ[j]? = some t' ∧ t'.owned = true ∧ t'.fresh = t.fresh := fun j t e wt => by
    rcases set_at e with ⟨rfl, rfl⟩ | ⟨ne, e⟩
    · exact ⟨s, h, w, f.symm⟩
    · exact ⟨t, e, wt, rfl⟩
  have own_ : ∀ a, Own ⟨S.F, S.ρ.set i s', S.σ, S.H⟩ a → Own S a := fun a ⟨j, t, c1, c2, c3⟩ => by
    obtain ⟨t', d1, d2, _⟩ := at_ j t c1 c2
    exact ⟨j, t', d1, d2, c3⟩
  refine ⟨⟨ok.sub, ok.tab, by simpa using ok.len, fun j t e => ?_, fun j k t u a h1 h2 w1 w2 e1 e2 => ?_⟩, ⟨G.refl _, fun a o e n no => e, fun a z => .inl z, fun a z => .inl (own_ a z), fun a ⟨j, t, c1, c2, c4, c3⟩ => ?_, fun a z => z, fun j t c1 c2 c3 => ?_⟩, fun r Hs hr => ?_⟩
  · rcases set_at e with ⟨rfl, rfl⟩ | ⟨ne, e⟩
    · exact hs
    · exact ok.slot j t e
  · obtain ⟨t', d1, d2, _⟩ := at_ j t h1 w1
    obtain ⟨u', d3, d4, _⟩ := at_ k u h2 w2
    exact ok.dis j k t' u' a d1 d3 d2 d4 e1 e2
  · obtain ⟨t', d1, d2, d3⟩ := at_ j t c1 c2
    exact .inl ⟨j, t', d1, d2, d3.trans c4, c3⟩
  · obtain ⟨t', d1, d2, d3⟩ := at_ j t c1 c2
    exact ⟨rfl, t', d1, d2, d3.trans c3⟩
  · cases r with
    | val d => exact hr
    | own i => exact hr
    | new xs =>
      obtain ⟨p, vs, h1, h2, h3, h4, h5, h6⟩ := hr
      exact ⟨p, vs, h1, h2, h3, h4, h5, fun z => h6 (own_ p z)⟩
    | nob s0 =>
      obtain ⟨p, vs, h1, h2, h3, h4, h5, h7, h6⟩ := hr
      exact ⟨p, vs, h1, h2, h3, h4, h5, h7, fun z => h6 (own_ p z)⟩
theorem bag_close {K : PySem.W.Frag} {T : Tz} {S : Sx} {i : Nat} {k : List Sl → Prop} {v : V} (ok : Ok K T S) (h : bagOut i k S.ρ) : ∃ ρ', k ρ' ∧ Ok K T ⟨S.F, ρ', S.σ, S.H⟩ ∧ Go S ⟨S.F, ρ', S.σ, S.H⟩ ∧ (∀ r Hs, rvR K Hs S r v → rvR K Hs ⟨S.F, ρ', S.σ, S.H⟩ r v) := by
  obtain ⟨f, a, b, c, n, h1, h2, h3⟩ := h
  have q := ok.slot i _ h1
  obtain ⟨p, vs, e1, e2, e3, e4⟩ := q
  have ev : vs = [V.int a, .int b, .int c] := RpL.ints (ns := [a, b, c]) e4
  subst ev
  obtain ⟨x, y, z⟩ := reslot (s' := .bg f n) (v := v) ok h1 rfl rfl rfl ⟨p, a, b, c, e1, e2, e3, h2⟩
  exact ⟨_, h3, x, y, z⟩
theorem dss_bag {C : Cd} {st : List Stmt} {t : TSd} (i : Nat) (h : PSsd C st t) : PSsd C st (rBag i t) := fun c S E D ok g0 q k => by
  obtain ⟨f, n, h1, q⟩ := q
  obtain ⟨p, a, b, c', e1, e2, e3, e4⟩ := ok.slot i _ h1
  obtain ⟨x, y, _⟩ := reslot (s' := .ow f [.int a, .int b, .int c']) (v := .non) ok h1 rfl rfl rfl ⟨p, [V.int a, .int b, .int c'], e1, e2, e3, RpL.of_ints [a, b, c']⟩
  refine h c ⟨S.F, S.ρ.set i (.ow f [.int a, .int b, .int c']), S.σ, S.H⟩ (bagEd i E) D x (g0.trans y) (q a b c' e4) ⟨fun S' a b d => ?_, fun S' a b d => ?_, fun S' a b d => ?_, fun r v S' a b d e => ?_⟩
  · obtain ⟨ρ', h1, h2, h3, _⟩ := bag_close (v := .non) b a
    exact k.nx ⟨S'.F, ρ', S'.σ, S'.H⟩ h1 h2 ((y.trans d).trans h3)
  · obtain ⟨ρ', h1, h2, h3, _⟩ := bag_close (v := .non) b a
    exact k.bk ⟨S'.F, ρ', S'.σ, S'.H⟩ h1 h2 ((y.trans d).trans h3)
  · obtain ⟨ρ', h1, h2, h3, _⟩ := bag_close (v := .non) b a
    exact k.ct ⟨S'.F, ρ', S'.σ, S'.H⟩ h1 h2 ((y.trans d).trans h3)
  · obtain ⟨ρ', h1, h2, h3, h4⟩ := bag_close (v := v) b a
    exact k.rt r v ⟨S'.F, ρ', S'.σ, S'.H⟩ h1 h2 ((y.trans d).trans h3) (h4 r _ e)
end DL
/-! dicts in slots -/
namespace DL
open PySem PySem.Spec PyProof.Rows L2
section
variable {κ α β : Type} [DecidableEq κ]
def valG (kvs : List (κ × α)) (k : κ) : Option α := (kvs.find? fun kv => decide (kv.1 = k)).map (·.2)
def putG (kvs : List (κ × α)) (k : κ) (v : α) : List (κ × α) :=
  if (kvs.any fun kv => decide (kv.1 = k)) = true then kvs.map (fun kv => if kv.1 = k then (kv.1, v) else kv) else kvs ++ [(k, v)]
theorem valG_nil {k : κ} : valG ([] : List (κ × α)) k = none := rfl
theorem valG_pos {p : κ × α} {r : List (κ × α)} {k : κ} (e : p.1 = k) : valG (p :: r) k = some p.2 := by simp [valG, List.find?_cons, e]
theorem valG_neg {p : κ × α} {r : List (κ × α)} {k : κ} (e : ¬ p.1 = k) : valG (p :: r) k = valG r k := by simp [valG, List.find?_cons, e]
theorem valG_any (k : κ) : ∀ kvs : List (κ × α), (kvs.any fun kv => decide (kv.1 = k)) = (valG kvs k).isSome
  | [] => rfl
  | p :: r => by
    rw [List.any_cons]
    by_cases e : p.1 = k
    · simp only [valG_pos e, decide_eq_true e, Bool.true_or, Option.isSome_some]
    · rw [valG_neg e, decide_eq_false e, Bool.false_or]; exact valG_any k r
theorem valG_map (k j : κ) (y : α) : ∀ kvs : List (κ × α), valG (kvs.map fun kv => if kv.1 = k then (kv.1, y) else kv) j = (valG kvs j).map fun x => if j = k then y else x
  | [] => rfl
  | p :: r => by
    have ih := valG_map k j y r
    rw [List.map_cons]
    by_cases h : p.1 = k
    · rw [if_pos h]
      by_cases e : p.1 = j
      · rw [valG_pos (p := (p.1, y)) e, valG_pos e, Option.map_some, if_pos (e.symm.trans h)]
      · rw [valG_neg (p := (p.1, y)) e, valG_neg e, ih]
    · rw [if_neg h]
      by_cases e : p.1 = j
      · rw [valG_pos (p := p) e, valG_pos e, Option.map_some, if_neg (fun z => h (e.trans z))]
      · rw [valG_neg (p := p) e, valG_neg e, ih]
theorem valG_snoc (k j : κ) (y : α) : ∀ kvs : List (κ × α), valG kvs k = none → valG (kvs ++ [(k, y)]) j = if j = k then some y else valG kvs j
  | [], _ => by
    by_cases e : k = j
    · rw [if_pos e.symm]; exact valG_pos (p := (k, y)) e
    · rw [if_neg (fun z => e z.symm)]; exact valG_neg (p := (k, y)) e
  | p :: r, hn => by
    rw [List.cons_append]
    have hk : ¬ p.1 = k := fun z => by rw [valG_pos z] at hn; cases hn
    rw [valG_neg hk] at hn
    have ih := valG_snoc k j y r hn
    by_cases e : p.1 = j
    · rw [valG_pos e, valG_pos e, if_neg (fun z => hk (e.trans z))]
    · rw [valG_neg e, valG_neg e, ih]
theorem valG_put (kvs : List (κ × α)) (k j : κ) (y : α) : valG (putG kvs k y) j = if j = k then some y else valG kvs j := by
  unfold putG
  by_cases h : (valG kvs k).isSome = true
  · rw [valG_any, if_pos h, valG_map]
    obtain ⟨v, hv⟩ := Option.isSome_iff_exists.mp h
    by_cases e : j = k
    · rw [if_pos e, e, hv]; simp
    · rw [if_neg e]; simp [e]
  · rw [valG_any, if_neg h]
    have hn : valG kvs k = none := by
      cases q : valG kvs k with
      | none => rfl
      | some v => rw [q] at h; exact absurd rfl h
    exact valG_snoc k j y kvs hn
theorem putG_length (kvs : List (κ × α)) (k : κ) (y : α) : (putG kvs k y).length ≤ kvs.length + 1 := by
  unfold putG
  split <;> simp
end
section
variable {κ : Type} [DecidableEq κ] {K : PySem.W.Frag} {F : Hp}
theorem kvr_cons {p : κ × V} {q : κ × D} {x : List (κ × V)} {y : List (κ × D)} : KvR K F (p :: x) (q :: y) ↔ p.1 = q.1 ∧ Rp K F p.2 q.2 ∧ KvR K F x y := by
  constructor
  · rintro ⟨h1, h2⟩
    simp only [List.map_cons] at h1 h2
    injection h1 with e1 e2
    cases h2 with
    | cons a b => exact ⟨e1, a, e2, b⟩
  · rintro ⟨h1, h2, h3, h4⟩
    exact ⟨by simp only [List.map_cons]; rw [h1, h3], .cons h2 h4⟩
theorem kvr_len {x : List (κ × V)} {y : List (κ × D)} (h : KvR K F x y) : x.length = y.length := by
  have := congrArg List.length h.1
  simpa using this
theorem kvr_val {k : κ} : ∀ {x : List (κ × V)} {y : List (κ × D)}, KvR K F x y → (∃ v d, valV x k = some v ∧ valG y k = some d ∧ Rp K F v d) ∨ (valV x k = none ∧ valG y k = none)
  | [], [], _ => .inr ⟨rfl, rfl⟩
  | [], _ :: _, h => absurd (kvr_len h) (by simp)
  | _ :: _, [], h => absurd (kvr_len h) (by simp)
  | p :: x, q :: y, h => by
    obtain ⟨h1, h2, h3⟩ := kvr_cons.mp h
    by_cases e : p.1 = k
    · exact .inl ⟨p.2, q.2, valV_pos e, valG_pos (by rw [← h1]; exact e), h2⟩
    · rw [valV_neg e, valG_neg (by rw [← h1]; exact e)]
      exact kvr_val h3
theorem kvr_put {k : κ} {v : V} {d : D} {x : List (κ × V)} {y : List (κ × D)} (h : KvR K F x y) (r : Rp K F v d) : KvR K F (putK x k v) (putG y k d) := by
  have any_ : ∀ {x : List (κ × V)} {y : List (κ × D)}, KvR K F x y → (x.any fun kv => decide (kv.1 = k)) = (y.any fun kv => decide (kv.1 = k)) := by
    intro x
    induction x with
    | nil => intro y h; cases y with
      | nil => rfl
      | cons _ _ => exact absurd (kvr_len h) (by simp)
    | cons p x ih => intro y h; cases y with
      | nil => exact absurd (kvr_len h) (by simp)
      | cons q y =>
        obtain ⟨h1, h2, h3⟩ := kvr_cons.mp h
        rw [List.any_cons, List.any_cons, ih h3, h1]
  have map_ : ∀ {x : List (κ × V)} {y : List (κ × D)}, KvR K F x y → KvR K F (x.map fun kv => if kv.1 = k then (kv.1, v) else kv) (y.map fun kv => if kv.1 = k then (kv.1, d) else kv) := by
    intro x
    induction x with
    | nil => intro y h; cases y with
      | nil => exact h
      | cons _ _ => exact absurd (kvr_len h) (by simp)
    | cons p x ih => intro y h; cases y with
      | nil => exact absurd (kvr_len h) (by simp)
      | cons q y =>
        obtain ⟨h1, h2, h3⟩ := kvr_cons.mp h
        rw [List.map_cons, List.map_cons]
        refine kvr_cons.mpr ⟨?_, ?_, ih h3⟩
        · by_cases e : p.1 = k
          · rw [if_pos e, if_pos (by rw [← h1]; exact e)]; exact h1
          · rw [if_neg e, if_neg (by rw [← h1]; exact e)]; exact h1
        · by_cases e : p.1 = k
          · rw [if_pos e, if_pos (by rw [← h1]; exact e)]; exact r
          · rw [if_neg e, if_neg (by rw [← h1]; exact e)]; exact h2
  unfold putK putG
  rw [any_ h]
  split
  · exact map_ h
  · exact ⟨by rw [List.map_append, List.map_append, h.1]; rfl, by rw [List.map_append, List.map_append]; exact h.2.append (.one r)⟩
end
def keyD : D → Option Key
  | .int i => some (.inl i)
  | .str x => some (.inr x)
  | _ => none
def keysD : List D → Option (List Key)
  | [] => some []
  | d :: ds => match keyD d, keysD ds with
    | some k, some ks => some (k :: ks)
    | _, _ => none
section
variable {K : PySem.W.Frag} {T : Tz} {S : Sx} {v : V}
theorem keyD_v {F : Hp} {d : D} {k : Key} (r : Rp K F v d) (e : keyD d = some k) : v = kV k := by
  cases d with
  | int i => cases e; cases r; rfl
  | str x => cases e; cases r; rfl
  | _ => cases e
theorem keysD_v {F : Hp} : ∀ {ds : List D} {vs : List V} {ks : List Key}, RpL K F vs ds → keysD ds = some ks → vs = ks.map kV
  | [], _, _, h, e => by cases h; cases e; rfl
  | d :: ds, _, ks, h, e => by
    cases h with
    | cons h1 h2 =>
      unfold keysD at e
      split at e
      · rename_i k ks' e1 e2
        cases e
        rw [keyD_v h1 e1, keysD_v h2 e2]; rfl
      · cases e
/-- what the dict of slot s holds at d -/
def dgetO : Option Sl → Option D → (Option D → Prop) → Prop
  | some (.dt _ kvs), some (.tux false ds), k => ∃ ks, keysD ds = some ks ∧ k (valG kvs ks)
  | some (.dk _ kvs), some d, k => ∃ ky, keyD d = some ky ∧ k (valG kvs ky)
  | _, _, _ => False
theorem dget_ok {i : Nat} {y : V} {d : Option D} {k : Option D → Prop} (ok : Ok K T S) (h : dgetO S.ρ[i]? d k) (hd : ∀ d', d = some d' → Shl K S y d') : ∃ p o o', S.σ[i]? = some (some (.ref p)) ∧ DGet S.H p y o ∧ k o' ∧ ((∃ v e, o = some v ∧ o' = some e ∧ Rp K S.F v e) ∨ (o = none ∧ o' = none)) := by
  unfold dgetO at h
  split at h
  · rename_i f kvs ds hs
    obtain ⟨ks, e1, hk⟩ := h
    obtain ⟨p, kvs', h1, h2, h3, h4⟩ := ok.slot i _ hs
    obtain ⟨a, vs, rfl, _, q2, q3⟩ := (hd _ rfl).tuk ok
    have ev := keysD_v q3 e1
    subst ev
    refine ⟨p, _, valG kvs ks, h1, DGet.t h3 q2, hk, ?_⟩
    rcases kvr_val (k := ks) h4 with ⟨v, e, z1, z2, z3⟩ | ⟨z1, z2⟩
    · exact .inl ⟨v, e, z1, z2, z3⟩
    · exact .inr ⟨z1, z2⟩
  · rename_i f kvs d hs
    obtain ⟨ky, e1, hk⟩ := h
    obtain ⟨p, kvs', h1, h2, h3, h4⟩ := ok.slot i _ hs
    have hv : Rp K S.F y d := (hd _ rfl).val fun xs z => by rw [z] at e1; cases e1
    have ev := keyD_v hv e1
    subst ev
    refine ⟨p, _, valG kvs ky, h1, DGet.k h3, hk, ?_⟩
    rcases kvr_val (k := ky) h4 with ⟨v, e, z1, z2, z3⟩ | ⟨z1, z2⟩
    · exact .inl ⟨v, e, z1, z2, z3⟩
    · exact .inr ⟨z1, z2⟩
  · exact h.elim
def dputO : Option Sl → Option D → D → (Sl → Prop) → Prop
  | some (.dt f kvs), some (.tux false ds), d, k => ∃ ks, keysD ds = some ks ∧ kvs.length < 16777216 ∧ k (.dt f (putG kvs ks d))
  | some (.dk f kvs), some y, d, k => ∃ ky, keyD y = some ky ∧ kvs.length < 16777216 ∧ k (.dk f (putG kvs ky d))
  | _, _, _, _ => False
theorem dput_ok {i : Nat} {y v : V} {yd : Option D} {d : D} {k : Sl → Prop} (ok : Ok K T S) (h : dputO S.ρ[i]? yd d k) (hd : ∀ d', yd = some d' → Shl K S y d') (r : Rp K S.F v d) :
    ∃ p H' s', S.σ[i]? = some (some (.ref p)) ∧ DPut S.H p y v H' ∧ k s' ∧ Ok K T ⟨S.F, S.ρ.set i s', S.σ, H'⟩ ∧ Go S ⟨S.F, S.ρ.set i s', S.σ, H'⟩ := by
  unfold dputO at h
  split at h
  · rename_i f kvs ds hs
    obtain ⟨ks, e1, hl, hk⟩ := h
    obtain ⟨p, kvs', h1, h2, h3, h4⟩ := ok.slot i _ hs
    obtain ⟨a, vs, rfl, _, q2, q3⟩ := (hd _ rfl).tuk ok
    have ev := keysD_v q3 e1
    subst ev
    exact ⟨p, _, _, h1, DPut.t h3 q2 (by rw [kvr_len h4, sizeLine_eq]; exact hl), hk, Ok.write ok hs rfl h1 rfl ⟨_, rfl, kvr_put h4 r⟩, Go.write hs rfl h1 rfl rfl (by rw [h3]; intro z; cases z)⟩
  · rename_i f kvs d' hs
    obtain ⟨ky, e1, hl, hk⟩ := h
    obtain ⟨p, kvs', h1, h2, h3, h4⟩ := ok.slot i _ hs
    have hv : Rp K S.F y d' := (hd _ rfl).val fun xs z => by rw [z] at e1; cases e1
    have ev := keyD_v hv e1
    subst ev
    exact ⟨p, _, _, h1, DPut.k h3 (by rw [kvr_len h4, sizeLine_eq]; exact hl), hk, Ok.write ok hs rfl h1 rfl ⟨_, rfl, kvr_put h4 r⟩, Go.write hs rfl h1 rfl rfl (by rw [h3]; intro z; cases z)⟩
  · exact h.elim
end
section
variable {C : Cd} {ie e : Expr} {ti te : TEd} {x : Str} {p0 pos : Pos}
def isDc : Option Sl → Bool
  | some (.dt _ _) => true
  | some (.dk _ _) => true
  | _ => false
theorem isDc_at {K : PySem.W.Frag} {T : Tz} {S : Sx} {j : Nat} (ok : Ok K T S) (h : isDc S.ρ[j]? = true) : ∃ v, S.σ[j]? = some (some v) := by
  cases e : S.ρ[j]? with
  | none => rw [e] at h; cases h
  | some s =>
    rw [e] at h
    cases s with
    | dt f kvs => exact slot_some ok e (fun z => by cases z)
    | dk f kvs => exact slot_some ok e (fun z => by cases z)
    | _ => cases h
/-- d[e], d a name -/
def rDGet (i : Nat) (ti : TEd) : TEd := fun ρ Q => isDc ρ[i]? = true ∧ ti ρ fun r ρ1 => dgetO ρ1[i]? (rd ρ1 r) fun o => ∃ d, o = some d ∧ Q (.val d) ρ1
theorem units1 {C : Cd} (c : C.Wf) : C.X.A.units + 1 < cLine := hu_of c.room
theorem d_dget (i : Nat) (hN : C.X.N[i]? = some x) (hv : Vis C.X.env.scope x) (hi : PEd C ie ti) (hs : NoSl ie := by intro _ _; rfl) (hd : (x == ("__debug__" : Str)) = false := by decide) (hcd : (x == ("__classdict__" : Str)) = false := by decide) :
    PEd C (.Subscript (.Name x p0) ie pos) (rDGet i ti) := fun c S Q Q' ok g0 h k => by
  refine wE.of (pe_dget (units1 c) (pe_var hN hv hd hcd) pe_w hs) ?_
  obtain ⟨h0, h⟩ := h
  obtain ⟨ov, hov⟩ := isDc_at ok h0
  refine ⟨ov, hov, ?_⟩
  refine hi c S _ _ ok g0 h fun r y F1 ρ1 H1 q1 ok1 g1 r1 => ?_
  obtain ⟨p, o, o', e1, e2, ⟨d, rfl, q⟩, e3⟩ := dget_ok (S := S.to F1 ρ1 H1) (y := y) ok1 q1 fun d' e => ok1.rd r1 e
  rw [show S.σ[i]? = some (some (.ref p)) from e1] at hov
  cases hov
  rcases e3 with ⟨v, e, rfl, z, z3⟩ | ⟨_, z⟩
  · cases z
    exact ⟨p, v, rfl, e2, k _ _ F1 ρ1 H1 q ok1 g1 z3⟩
  · cases z
/-- e in d -/
def rDIn (f : Bool → Bool) (i : Nat) (ti : TEd) : TEd := fun ρ Q => ti ρ fun r ρ1 => isDc ρ1[i]? = true ∧ dgetO ρ1[i]? (rd ρ1 r) fun o => Q (.val (.bl (f o.isSome))) ρ1
theorem d_dinA (i : Nat) {pc : Pos} (hN : C.X.N[i]? = some x) (hv : Vis C.X.env.scope x) (hi : PEd C ie ti) (hd : (x == ("__debug__" : Str)) = false := by decide) (hcd : (x == ("__classdict__" : Str)) = false := by decide) :
    ∀ c : C.Wf, ∀ (S : Sx) (Q : Rv → List Sl → Prop) (Q' : VK), Ok C.X.K C.T S → Go C.S0 S → rDIn id i ti S.ρ Q →
      (∀ r v F' ρ' H', Q r ρ' → Ok C.X.K C.T (S.to F' ρ' H') → Go S (S.to F' ρ' H') → rvR C.X.K S.H (S.to F' ρ' H') r v → Q' v H') → tDIn (wE C.X ie) (tVar i) S.σ S.H Q' := fun c S Q Q' ok g0 h k => by
  refine hi c S _ _ ok g0 h fun r y F1 ρ1 H1 q1 ok1 g1 r1 => ?_
  obtain ⟨h0, q1⟩ := q1
  obtain ⟨p, o, o', e1, e2, q, e3⟩ := dget_ok (S := S.to F1 ρ1 H1) (y := y) ok1 q1 fun d' e => ok1.rd r1 e
  refine ⟨_, e1, p, o, rfl, e2, ?_⟩
  have eo : o.isSome = o'.isSome := by
    rcases e3 with ⟨v, e, rfl, rfl, _⟩ | ⟨rfl, rfl⟩ <;> rfl
  rw [eo]
  exact k _ _ F1 ρ1 H1 q ok1 g1 (.bl _)
theorem d_din (i : Nat) {pc : Pos} (hN : C.X.N[i]? = some x) (hv : Vis C.X.env.scope x) (hi : PEd C ie ti) (hm : behindInMarks .In (.Name x p0) = false := by rfl) (hd : (x == ("__debug__" : Str)) = false := by decide) (hcd : (x == ("__classdict__" : Str)) = false := by decide) :
    PEd C (.Compare ie [.In] [.Name x p0] pos) (rDIn id i ti) := fun c S Q Q' ok g0 h k =>
  wE.of (pe_cmp (pc_din (units1 c) pe_w (pe_var hN hv hd hcd)) hm) (d_dinA i (pc := pos) hN hv hi hd hcd c S Q Q' ok g0 h k)
theorem d_dnin (i : Nat) {pc : Pos} (hN : C.X.N[i]? = some x) (hv : Vis C.X.env.scope x) (hi : PEd C ie ti) (hm : behindInMarks .NotIn (.Name x p0) = false := by rfl) (hd : (x == ("__debug__" : Str)) = false := by decide) (hcd : (x == ("__classdict__" : Str)) = false := by decide) :
    PEd C (.Compare ie [.NotIn] [.Name x p0] pos) (rDIn (!·) i ti) := fun c S Q Q' ok g0 h k => by
  refine wE.of (pe_cmp (pc_dnotin (units1 c) pe_w (pe_var hN hv hd hcd)) hm) ?_
  refine hi c S _ _ ok g0 h fun r y F1 ρ1 H1 q1 ok1 g1 r1 => ?_
  obtain ⟨h0, q1⟩ := q1
  obtain ⟨p, o, o', e1, e2, q, e3⟩ := dget_ok (S := S.to F1 ρ1 H1) (y := y) ok1 q1 fun d' e => ok1.rd r1 e
  refine ⟨_, e1, p, o, rfl, e2, ?_⟩
  have eo : o.isSome = o'.isSome := by
    rcases e3 with ⟨v, e, rfl, rfl, _⟩ | ⟨rfl, rfl⟩ <;> rfl
  rw [eo]
  exact k _ _ F1 ρ1 H1 q ok1 g1 (.bl _)
theorem d_tdin (i : Nat) (hN : C.X.N[i]? = some x) (hv : Vis C.X.env.scope x) (hi : PEd C ie ti) (hm : behindInMarks .In (.Name x p0) = false := by rfl) (hd : (x == ("__debug__" : Str)) = false := by decide) (hcd : (x == ("__classdict__" : Str)) = false := by decide) :
    PTd C (.Compare ie [.In] [.Name x p0] pos) (rTst (rDIn id i ti)) := fun c S Q Q' ok g0 h k =>
  wT.of (pt_cmp (pc_din (units1 c) pe_w (pe_var hN hv hd hcd)) hm) (d_dinA i (pc := pos) hN hv hi hd hcd c S (tstQ Q) _ ok g0 h (tstQ_ok k))
/-- d[k] = e, d a name -/
def rDPutO (j : Nat) (ti : TEd) (k : List Sl → Prop) : Option (D × List Sl) → Prop
  | some p => isDc p.2[j]? = true ∧ ti p.2 fun ix ρ3 => dputO ρ3[j]? (rd ρ3 ix) p.1 fun s => k (ρ3.set j s)
  | none => False
def rDPut (j : Nat) (ti te : TEd) : TSd := fun E ρ => te ρ fun r ρ1 => rDPutO j ti E.nx (cl1 ρ1 r)
theorem ds_dput (j : Nat) {p1 : Pos} (hN : C.X.N[j]? = some x) (hv : Vis C.X.env.scope x) (hi : PEd C ie ti) (he : PEd C e te) (hs : swapsWith e (some (.Subscript (.Name x p0) ie p1)) pos.line C.X.env = pure false := by rfl)
    (hd : (x == ("__debug__" : Str)) = false := by decide) (hcd : (x == ("__classdict__" : Str)) = false := by decide) :
    PSd C (.Assign [.Subscript (.Name x p0) ie p1] e pos) (rDPut j ti te) := fun c S E D ok g0 h k => by
  refine wS.of (ps_dput (units1 c) (pe_var hN hv hd hcd) pe_w pe_w hs) ?_
  refine he c S _ _ ok g0 h fun r v F1 ρ1 H1 q1 ok1 g1 r1 => ?_
  have q1 : rDPutO j ti E.nx (cl1 ρ1 r) := q1
  cases e1 : cl1 ρ1 r with
  | none => rw [e1] at q1; exact q1.elim
  | some pr =>
    rw [e1] at q1
    obtain ⟨d, ρ2⟩ := pr
    obtain ⟨F2, ok2, g2, gF, rr⟩ := clean (S0 := S) (S := S.to F1 ρ1 H1) ok1 g1 r1 e1
    obtain ⟨q0, q1⟩ := (show isDc ρ2[j]? = true ∧ ti ρ2 fun ix ρ3 => dputO ρ3[j]? (rd ρ3 ix) d fun s => E.nx (ρ3.set j s) from q1)
    obtain ⟨ov, hov⟩ := isDc_at (S := S.to F2 ρ2 H1) ok2 q0
    refine ⟨ov, hov, ?_⟩
    refine hi c (S.to F2 ρ2 H1) _ _ ok2 (g0.trans g2) q1 fun ix w F3 ρ3 H3 q3 ok3 g3 r3 => ?_
    have rr3 : Rp C.X.K F3 v d := Rp.mono g3.g _ _ rr
    obtain ⟨p, H4, s', a1, a2, a3, a4, a5⟩ := dput_ok (S := S.to F3 ρ3 H3) (y := w) (v := v) ok3 q3 (fun d' e => ok3.rd r3 e) rr3
    rw [show S.σ[j]? = some (some ov) from hov] at a1
    cases a1
    exact ⟨p, H4, rfl, a2, k.nx _ a3 a4 ((g2.trans g3).trans a5)⟩
/-- x = {} -/
def rSetDT (i : Nat) : TSd := fun E ρ => E.nx (ρ.set i (.dt true []))
def rSetDK (i : Nat) : TSd := fun E ρ => E.nx (ρ.set i (.dk true []))
theorem ds_setDT (i : Nat) {pos' pe : Pos} (hi : C.X.N[i]? = some x) (hx : Loc C.X.env.scope x) (hs : swapsWith (.Dict [] [] pe) (some (.Name x pos')) pos.line C.X.env = pure false := by rfl) (hf : C.X.fn x = true ∨ C.X.env.scope.names.lookup x = some .local := by first | exact .inl rfl | exact .inr rfl | assumption) :
    PSd C (.Assign [.Name x pos'] (.Dict [] [] pe) pos) (rSetDT i) := fun c S E D ok g0 h k =>
  wS.of (ps_set c.nd hi hx pe_dnewT hs hf) fun p hp => by
    have okl : Ok C.X.K C.T (S.to S.F S.ρ (upd S.H p (.dT []))) := ok.laid hp
    refine k.nx ⟨S.F, S.ρ.set i (.dt true []), S.σ.set i (some (.ref p)), upd S.H p (.dT [])⟩ h ?_ ?_
    · exact Ok.put (S := S.to S.F S.ρ (upd S.H p (.dT []))) (v := .ref p) (i := i) (s := .dt true []) okl ⟨p, [], rfl, ok.freeN hp, upd_same, rfl, .nil⟩ fun _ a (e : V.ref p = V.ref a) => by cases e; exact ok.noOwn hp
    · exact Go.put (S := S.to S.F S.ρ (upd S.H p (.dT []))) (v := .ref p) (i := i) (s := .dt true []) (Go.laid hp) fun _ => ⟨rfl, fun a (e : V.ref p = V.ref a) => by cases e; exact hp⟩
theorem ds_setDK (i : Nat) {pos' pe : Pos} (hi : C.X.N[i]? = some x) (hx : Loc C.X.env.scope x) (hs : swapsWith (.Dict [] [] pe) (some (.Name x pos')) pos.line C.X.env = pure false := by rfl) (hf : C.X.fn x = true ∨ C.X.env.scope.names.lookup x = some .local := by first | exact .inl rfl | exact .inr rfl | assumption) :
    PSd C (.Assign [.Name x pos'] (.Dict [] [] pe) pos) (rSetDK i) := fun c S E D ok g0 h k =>
  wS.of (ps_set c.nd hi hx pe_dnewK hs hf) fun p hp => by
    have okl : Ok C.X.K C.T (S.to S.F S.ρ (upd S.H p (.dK []))) := ok.laid hp
    refine k.nx ⟨S.F, S.ρ.set i (.dk true []), S.σ.set i (some (.ref p)), upd S.H p (.dK [])⟩ h ?_ ?_
    · exact Ok.put (S := S.to S.F S.ρ (upd S.H p (.dK []))) (v := .ref p) (i := i) (s := .dk true []) okl ⟨p, [], rfl, ok.freeN hp, upd_same, rfl, .nil⟩ fun _ a (e : V.ref p = V.ref a) => by cases e; exact ok.noOwn hp
    · exact Go.put (S := S.to S.F S.ρ (upd S.H p (.dK []))) (v := .ref p) (i := i) (s := .dk true []) (Go.laid hp) fun _ => ⟨rfl, fun a (e : V.ref p = V.ref a) => by cases e; exact hp⟩
end
end DL
/-! the loop over the bags -/
namespace DL
open PySem PySem.Spec PyProof.Rows L2
section
variable {K : PySem.W.Frag} {T : Tz} {S : Sx}
/-- behind a call that was handed nothing of its own -/
theorem calledU {as post : List Sl} {σ : L2.St} {F' H' : Hp} (hu : ∀ (j : Nat) (s : Sl), as[j]? = some s → s.owned = false) (ok : Ok K T S) (ok' : Ok K T ⟨F', post, σ, H'⟩) (g : Go ⟨S.F, as, σ, S.H⟩ ⟨F', post, σ, H'⟩) :
    Ok K T ⟨F', S.ρ, S.σ, H'⟩ ∧ Go S ⟨F', S.ρ, S.σ, H'⟩ ∧ ∀ a, F' a ≠ none → S.F a ≠ none ∨ S.H a = none := by
  have no : ∀ a, ¬ Own ⟨S.F, as, σ, S.H⟩ a := fun a ⟨j, s, h, w, _⟩ => by rw [hu j s h] at w; cases w
  have nw : ∀ a, F' a ≠ none → S.F a ≠ none ∨ S.H a = none := fun a h => (g.nw a h).elim .inl fun z => z.elim .inr fun y => absurd y.own (no a)
  refine ⟨⟨ok'.sub, ok'.tab, ok.len, fun j u h => ?_, ok.dis⟩, ⟨g.g, fun a o h n _ => g.kp a o h n (no a), fun a h => (nw a h).imp id .inl, fun a h => .inl h, fun a h => .inl h, g.dom, fun j u h1 h2 h3 => ⟨rfl, u, h1, h2, h3⟩⟩, nw⟩
  cases w : u.owned with
  | false => exact (ok.slot j u h).val w g.g
  | true =>
    obtain ⟨q, o, b1, b2, b3, b4⟩ := (ok.slot j u h).at w
    refine slR.of (p := q) (u := o) b1 ?_ (g.kp q o b3 (cont_tbl b4) (no q)) (b4.mono g.g)
    cases z : F' q with
    | none => exact z
    | some x =>
      rcases nw q (by rw [z]; intro y; cases y) with y | y
      · exact absurd b2 y
      · rw [y] at b3; cases b3
end
def isBag (n : Nat) (x : D) : Prop := ∃ a b c, x = .lst [.int a, .int b, .int c] ∧ BagOk n a b c
def spBags : DSp := fun as Rr => ∃ ns m, as = [.scr ns, .sh (.int m)] ∧ 0 ≤ m ∧ m ≤ 100 ∧ ∀ xs post, (∀ x ∈ xs, isBag 100000 x) → xs.length ≤ 101 → Rr (.new xs) post
def bagNx (ib n : Nat) (I : List Sl → Prop) (ρ : List Sl) : Prop := ∃ n', ρ[ib]? = some (.bg false n') ∧ n' ≤ n + 10000000 ∧ I (ρ.set ib .no)
def rBags (is ib : Nat) (m : Int) (tb : TSd) : TSd := fun E ρ => 0 ≤ m ∧ m ≤ 100 ∧ (∃ ns, ρ[is]? = some (.scr ns)) ∧ ib < ρ.length ∧ ∃ I : List Sl → Prop, I (ρ.set ib .no) ∧
  (∀ n ρ', n ≤ 2000000000 → I ρ' → tb { nx := bagNx ib n I, rt := fun _ _ => False } (ρ'.set ib (.bg false n))) ∧ ∀ ρ', I ρ' → E.nx ρ'
def BagFact (vs : List V) (L : Addr) (n : Nat) (S : Sx) : Prop :=
  S.H L = some (.lst vs) ∧ ¬ Own S L ∧ ∀ v ∈ vs, ∃ q a b c, v = .ref q ∧ S.H q = some (.lst [.int a, .int b, .int c]) ∧ BagOk n a b c ∧ S.F q = none ∧ ¬ Own S q ∧ q ≠ L
theorem BagOk.le {n m : Nat} {a b c : Int} (h : BagOk n a b c) (l : n ≤ m) : BagOk m a b c := ⟨h.1, h.2.1, h.2.2.1, h.2.2.2.1, Int.le_trans h.2.2.2.2 (by omega)⟩
section
variable {C : Cd} {pos pp p0 pt p1 : Pos} {xb x s : Str} {f : Addr} {fd : FuncData} {ps : List Str} {k : Nat} {m : Int} {jj : Nat} {body : List Stmt} {tb : TSd}
theorem wipe_slot {K : PySem.W.Frag} {T : Tz} {S : Sx} {ib : Nat} (ok : Ok K T S) : Ok K T ⟨S.F, S.ρ.set ib .no, S.σ, S.H⟩ ∧ (∀ a, Own ⟨S.F, S.ρ.set ib .no, S.σ, S.H⟩ a → ∃ (j : Nat) (s : Sl), j ≠ ib ∧ S.ρ[j]? = some s ∧ s.owned = true ∧ S.σ[j]? = some (some (.ref a))) := by
  refine ⟨⟨ok.sub, ok.tab, by simpa using ok.len, fun j t h => ?_, fun i j s t a h1 h2 w1 w2 e1 e2 => ?_⟩, fun a ⟨j, s, h, w, e⟩ => ?_⟩
  · rcases set_at h with ⟨rfl, rfl⟩ | ⟨_, h⟩
    · trivial
    · exact ok.slot j t h
  · rcases set_at h1 with ⟨rfl, rfl⟩ | ⟨_, h1⟩
    · cases w1
    · rcases set_at h2 with ⟨rfl, rfl⟩ | ⟨_, h2⟩
      · cases w2
      · exact ok.dis i j s t a h1 h2 w1 w2 e1 e2
  · rcases set_at h with ⟨rfl, rfl⟩ | ⟨ne, h⟩
    · cases w
    · exact ⟨j, s, ne, h, w, e⟩
theorem ds_bags (is ib : Nat) (F : FnOk C.X.prog C.X.w C.X.K C.X.mg C.X.base (L2N.CX C.X.prog C.X.w) k f fd ps (toSp C.X.K C.T 2 spBags)) (hk : k ≤ C.k) (hg : Gl C.X x) (hm : C.X.mg x = some (.ref f)) (hkp : PySem.W.keepIn C.X.K (.ref f) = true) (hb : Binds C.X.K fd ps [])
    (hNs : C.X.N[is]? = some s) (hvs : Vis C.X.env.scope s) (hNb : C.X.N[ib]? = some xb) (hvb : C.X.env.scope.names.lookup xb = some .local)
    (hbd : ∀ S0 : Sx, PSsd ⟨C.X, C.T, S0, C.W, fun _ _ => False, C.k⟩ body tb)
    (hdb : (x == ("__debug__" : Str)) = false := by decide) (hd : (s == ("__debug__" : Str)) = false := by decide) (hcd : (s == ("__classdict__" : Str)) = false := by decide)
    (he : starEach [.Name s p0, .Constant (.int m) jj p1] C.X.env = (false, eval (.Name s p0) C.X.env) :: starEach [.Constant (.int m) jj p1] C.X.env := by rfl)
    (he2 : starEach [.Constant (.int m) jj p1] C.X.env = (false, eval (.Constant (.int m) jj p1) C.X.env) :: starEach [] C.X.env := by rfl)
    (hpl : (backTo pos (starEach [.Constant (.int m) jj p1] C.X.env)).any (·.1) = false := by rfl) (hfs : ∀ x', foldedSetIterable (.Call (.Name x pp) [.Name s p0, .Constant (.int m) jj p1] [] pos) C.X.env x' = pure x' := by intro _; rfl) :
    C.Wf → ∀ (S : Sx) (E : Ed) (D : Ends), Ok C.X.K C.T S → Go C.S0 S → (∀ a o, S.F a = some o → ∃ u xs, o = .frz u (.lst xs)) → (∀ (j : Nat) (s : Sl), S.ρ[j]? = some s → s.owned = false) → rBags is ib m tb E S.ρ → Endd C S E D →
      wS C.X (.For (.Name xb pt) (.Call (.Name x pp) [.Name s p0, .Constant (.int m) jj p1] [] pos) body [] pos) D S.σ S.H := by
  intro c S E D ok g0 hF hu h kk
  obtain ⟨m0, m1, ⟨ns, hsc⟩, hib, I, i0, step, fin⟩ := h
  have cB : ∀ S0 : Sx, Cd.Wf ⟨C.X, C.T, S0, C.W, fun _ _ => False, C.k⟩ := fun S0 => ⟨c.tk, c.room, c.calm, c.nd, c.po, fun _ _ _ _ z => z.elim⟩
  refine wS.of (ps_for c.po c.calm (pi_list (pe_callS (F.mono hk) c.room hg hm hkp hb (fun σ => L2N.passAt c.tk σ) (pa_cons (pe_var hNs hvs hd hcd) (pa_cons pe_int pa_nil he2) he) hdb he hpl)) pg_w pss_w hfs) ?_
  obtain ⟨p, hp, hq⟩ := ok.slot is _ hsc
  refine ⟨.ref p, hp, ?_⟩
  have okA : Ok C.X.K C.T ⟨S.F, [.scr ns, .sh (.int m)], ([V.ref p, .int m]).map some, S.H⟩ := by
    refine ⟨ok.sub, ok.tab, rfl, fun j t ht => ?_, fun i j a b q h1 h2 w1 w2 _ _ => ?_⟩
    · cases j with
      | zero =>
        have ht : Sl.scr ns = t := by simpa using ht
        subst ht
        exact ⟨p, rfl, hq⟩
      | succ j =>
        cases j with
        | zero =>
          have ht : Sl.sh (.int m) = t := by simpa using ht
          subst ht
          exact ⟨_, rfl, .int m⟩
        | succ j => simp at ht
    · cases i with
      | zero => have h1 : Sl.scr ns = a := by simpa using h1
                subst h1; cases w1
      | succ i =>
        cases i with
        | zero => have h1 : Sl.sh (.int m) = a := by simpa using h1
                  subst h1; cases w1
        | succ i => simp at h1
  have uA : ∀ (j : Nat) (t : Sl), [Sl.scr ns, .sh (.int m)][j]? = some t → t.owned = false ∧ t.fresh = false := fun j t ht => by
    cases j with
    | zero => have ht : Sl.scr ns = t := by simpa using ht
              subst ht; exact ⟨rfl, rfl⟩
    | succ j =>
      cases j with
      | zero => have ht : Sl.sh (.int m) = t := by simpa using ht
                subst ht; exact ⟨rfl, rfl⟩
      | succ j => simp at ht
  refine ⟨rfl, S.F, [.scr ns, .sh (.int m)], fun res _ => ∃ xs, res = .new xs ∧ (∀ x ∈ xs, isBag 100000 x) ∧ xs.length ≤ 101, okA, fun j t ht => (uA j t ht).2, ⟨ns, m, rfl, m0, m1, fun xs _ hx hl => ⟨xs, rfl, hx, hl⟩⟩, fun res r v F' post H' hr er ok' g' hpst rr => ?_, fun er F' post H' cls d ⟨xs, hz, _⟩ => by cases hz⟩
  obtain ⟨xs, rfl, hx, hxl⟩ := hr
  cases er
  obtain ⟨L, vs, rfl, hL0, hL1, hL2, hL3, hL4⟩ := rr
  obtain ⟨ok1, g1, nw1⟩ := calledU (fun j t ht => (uA j t ht).1) ok ok' g'
  have hL2 : H' L = some (.lst vs) := hL2
  have hL3 : RpL C.X.K F' vs xs := hL3
  -- the state behind the call, what was new in F forgotten
  let S1 : Sx := ⟨S.F, S.ρ, S.σ, H'⟩
  have noOwn : ∀ a, ¬ Own S a := fun a ⟨j, t, h1, w, _⟩ => by rw [hu j t h1] at w; cases w
  have okS1 : Ok C.X.K C.T S1 := ⟨fun a o e => g1.kp a o (ok.sub a o e) (fun ps z => by obtain ⟨u, ys, e2⟩ := hF a o e; rw [z] at e2; cases e2) (noOwn a), ok'.tab, ok.len, fun j t ht => (ok.slot j t ht).val (hu j t ht) (G.refl _), ok.dis⟩
  have gS1 : Go S S1 := ⟨G.refl _, g1.kp, fun a z => .inl z, fun a z => .inl z, fun a z => .inl z, g1.dom, fun j t h1 h2 h3 => ⟨rfl, t, h1, h2, h3⟩⟩
  have fact : ∀ v ∈ vs, ∃ q a b c, v = .ref q ∧ H' q = some (.lst [.int a, .int b, .int c]) ∧ BagOk 100000 a b c ∧ S.F q = none ∧ S.H q = none ∧ q ≠ L := fun v hv => by
    obtain ⟨i, hi⟩ := List.getElem?_of_mem hv
    obtain ⟨d, hd, rd⟩ := hL3.getV hi
    obtain ⟨a, b, cc, rfl, hbk⟩ := hx d (List.mem_of_getElem? hd)
    cases rd with
    | @lst q us _ e1 e2 =>
      have eu : us = [V.int a, .int b, .int cc] := RpL.ints (ns := [a, b, cc]) e2
      subst eu
      have fq : S.F q = none := by
        cases z : S.F q with
        | none => rfl
        | some o =>
          obtain ⟨u, ys, rfl⟩ := hF q o z
          have := g'.g q _ z (fun _ y => by cases y)
          rw [show F' q = some (.frz u (.lst ys)) from this] at e1
          cases e1
      have hqn : S.H q = none := (nw1 q (by rw [e1]; intro z; cases z)).elim (fun z => absurd fq z) id
      refine ⟨q, a, b, cc, rfl, ok1.sub q _ e1, hbk, fq, hqn, fun z => ?_⟩
      rw [z] at e1
      rw [show F' L = none from hL1] at e1
      cases e1
  have hLS : S.H L = none := hL0
  obtain ⟨okw, oww⟩ := wipe_slot (ib := ib) okS1
  let Sw : Sx := ⟨S.F, S.ρ.set ib .no, S.σ, H'⟩
  have noOw : ∀ a, ¬ Own Sw a := fun a z => by
    obtain ⟨j, t, _, h1, h2, _⟩ := oww a z
    have h1 : S.ρ[j]? = some t := h1
    rw [hu j t h1] at h2; cases h2
  have gSw : Go S Sw := ⟨G.refl _, g1.kp, fun a z => .inl z, fun a z => absurd z (noOw a), fun a z => absurd z.own (noOw a), g1.dom, fun j t h1 h2 h3 => by
    rcases set_at h1 with ⟨rfl, rfl⟩ | ⟨_, h1⟩
    · cases h2
    · rw [hu j t h1] at h2; cases h2⟩
  have newQ : ∀ v ∈ vs, ∀ q, v = .ref q → S.H q = none := fun v hv q e => by
    obtain ⟨q', _, _, _, e', _, _, _, z, _⟩ := fact v hv
    rw [e] at e'; cases e'; exact z
  refine ⟨L, rfl, ⟨vs, SqL.of hL2⟩, ?_⟩
  refine ⟨fun i mm σ H => ∃ S', S'.σ = σ ∧ S'.H = H ∧ mm = vs.length - i ∧ i ≤ vs.length ∧ I S'.ρ ∧ S'.ρ[ib]? = some .no ∧ Ok C.X.K C.T S' ∧ Go S S' ∧ BagFact vs L (100000 + 10000000 * i) S', ⟨vs.length, Sw, rfl, rfl, rfl, Nat.zero_le _, i0, by show (S.ρ.set ib .no)[ib]? = _; rw [List.getElem?_set_self hib], okw, gSw, hL2, noOw L, fun v hv => ?_⟩, ?_⟩
  · obtain ⟨q, a, b, cc, e1, e2, e3, e4, e5, e6⟩ := fact v hv
    exact ⟨q, a, b, cc, e1, e2, e3, e4, noOw q, e6⟩
  rintro i mm σ H ⟨S', rfl, rfl, rfl, hi, hI, hno, ok', g', hB⟩
  obtain ⟨hB1, hB2, hB3⟩ := hB
  have w := walk_list (K := C.X.K) (a := L) (xs := vs)
  have q : SqL C.X.K S'.H L vs := SqL.of hB1
  by_cases hlt : i < vs.length
  · refine .inr ⟨w.goes i _ hlt q, fun σ2 H2 => ∃ S2, S2.σ = σ2 ∧ S2.H = H2 ∧ I S2.ρ ∧ S2.ρ[ib]? = some .no ∧ Ok C.X.K C.T S2 ∧ Go S S2 ∧ BagFact vs L (100000 + 10000000 * (i + 1)) S2, ?_, ?_⟩
    · rintro σ2 H2 ⟨S2, e1, e2, e3, e4, e5, e6, e7⟩
      exact ⟨vs.length - (i + 1), by omega, S2, e1, e2, rfl, hlt, e3, e4, e5, e6, e7⟩
    · intro x H2 y
      obtain ⟨rfl, hx'⟩ := w.yields i _ x H2 hlt q y
      have hxm : x ∈ vs := List.mem_of_getElem? hx'
      obtain ⟨b, ba, bb, bc, rfl, b1, b2, b3, b4, b5⟩ := hB3 x hxm
      obtain ⟨n, hn⟩ : ∃ n, n = 100000 + 10000000 * i := ⟨_, rfl⟩
      rw [← hn] at b2
      let Sp : Sx := ⟨S'.F, S'.ρ.set ib (.bg false n), S'.σ.set ib (some (.ref b)), S'.H⟩
      have okp : Ok C.X.K C.T Sp := Ok.put (v := .ref b) (s := .bg false n) ok' ⟨b, ba, bb, bc, rfl, b3, b1, b2⟩ fun _ a (e : V.ref b = V.ref a) => by cases e; exact b4
      have ownp : ∀ a, Own Sp a → Own S' a ∨ a = b := fun a z => (own_put z).imp id fun y => by cases y.2; rfl
      have hvl : vs.length ≤ 101 := by rw [hL3.length]; exact hxl
      refine wG.of (pg_name c.nd hNb (.inl hvb) (.inr hvb)) ?_
      have hst := step n S'.ρ (by omega) hI
      refine hbd Sp (cB Sp) Sp _ _ okp (Go.refl _) hst ⟨fun S2 hS2 ok2 g2 => ?_, fun S2 z _ _ => (show False from z).elim, fun S2 z _ _ => (show False from z).elim, fun r v S2 z _ _ _ => (show False from z).elim⟩
      obtain ⟨n', hb1, hb2, hb3⟩ := hS2
      have hle : n' ≤ 100000 + 10000000 * (i + 1) := by
        rw [hn] at hb2
        rw [Nat.mul_add, Nat.mul_one, ← Nat.add_assoc]
        exact hb2
      obtain ⟨ok3, ow3⟩ := wipe_slot (ib := ib) ok2
      obtain ⟨pin1, _⟩ := g2.pin ib _ hb1 rfl rfl
      have hσp : Sp.σ[ib]? = some (some (.ref b)) := by
        show (S'.σ.set ib (some (V.ref b)))[ib]? = _
        rw [List.getElem?_set_self (by rw [← ok'.len]; exact (List.getElem?_eq_some_iff.mp hno).1)]
      have hσ2 : S2.σ[ib]? = some (some (.ref b)) := by rw [pin1]; exact hσp
      have ib2 : ib < S2.ρ.length := (List.getElem?_eq_some_iff.mp hb1).1
      have hbS : S.H b = none := newQ _ hxm b rfl
      have key : ∀ a, Own ⟨S2.F, S2.ρ.set ib .no, S2.σ, S2.H⟩ a → (Own S' a ∨ Sp.H a = none) ∧ a ≠ b := fun a z => by
        obtain ⟨j, t, nj, h1, h2, h3⟩ := ow3 a z
        have ne : a ≠ b := fun e => by
          subst e
          exact nj (ok2.dis j ib t _ a h1 hb1 h2 rfl h3 hσ2)
        refine ⟨?_, ne⟩
        rcases g2.ow a ⟨j, t, h1, h2, h3⟩ with y | y
        · rcases ownp a y with y | y
          · exact .inl y
          · exact absurd y ne
        · exact .inr y
      have ofrp : ∀ a, Ofr Sp a → Ofr S' a := fun a ⟨j, t, h1, h2, h4, h3⟩ => by
        rcases set_at h1 with ⟨rfl, rfl⟩ | ⟨nj, h1⟩
        · cases h4
        · refine ⟨j, t, h1, h2, h4, ?_⟩
          rw [← h3]
          exact (List.getElem?_set_ne (Ne.symm nj)).symm
      have nOwnL : ¬ Own Sp L := fun z => (ownp L z).elim hB2 fun e => b5 e.symm
      have keepF : ∀ a o, S'.H a = some o → S'.F a = none → ¬ Own S' a → S2.F a = none := fun a o e1 e2 e3 => by
        cases z : S2.F a with
        | none => rfl
        | some u =>
          rcases g2.nw a (by rw [z]; intro y; cases y) with y | y | y
          · exact absurd e2 y
          · rw [show S'.H a = none from y] at e1; cases e1
          · exact absurd (ofrp a y).own e3
      refine ⟨⟨S2.F, S2.ρ.set ib .no, S2.σ, S2.H⟩, rfl, rfl, hb3, by show (S2.ρ.set ib .no)[ib]? = _; rw [List.getElem?_set_self ib2], ok3, ?_, ?_⟩
      · refine ⟨g'.g.trans g2.g, fun a o e nt no => ?_, fun a z => ?_, fun a z => ?_, fun a z => ?_, fun a z => g'.dom a (g2.dom a z), fun j t h1 h2 h3 => ?_⟩
        · have e1 := g'.kp a o e nt no
          refine g2.kp a o e1 nt fun y => ?_
          rcases ownp a y with y | y
          · rcases g'.ow a y with y | y
            · exact no y
            · rw [y] at e; cases e
          · rw [y, hbS] at e; cases e
        · rcases g2.nw a z with y | y | y
          · exact g'.nw a y
          · exact .inr (.inl (g'.dom a y))
          · exact (g'.fr a (ofrp a y)).elim (fun q => .inr (.inr q)) fun q => .inr (.inl q)
        · obtain ⟨y, _⟩ := key a z
          rcases y with y | y
          · exact g'.ow a y
          · exact .inr (g'.dom a y)
        · obtain ⟨j, t, h1, h2, h4, h3⟩ := z
          rcases set_at h1 with ⟨rfl, rfl⟩ | ⟨nj, h1⟩
          · cases h2
          · rcases g2.fr a ⟨j, t, h1, h2, h4, h3⟩ with y | y
            · exact g'.fr a (ofrp a y)
            · exact .inr (g'.dom a y)
        · rcases set_at h1 with ⟨rfl, rfl⟩ | ⟨nj, h1⟩
          · cases h2
          · obtain ⟨e1, t', h4, h5, h6⟩ := g2.pin j t h1 h2 h3
            rcases set_at h4 with ⟨e, _⟩ | ⟨_, h4⟩
            · exact absurd e nj
            · obtain ⟨e2, u⟩ := g'.pin j t' h4 h5 h6
              refine ⟨?_, u⟩
              show S2.σ[j]? = S.σ[j]?
              rw [e1, ← e2]
              exact List.getElem?_set_ne (Ne.symm nj)
      · refine ⟨g2.kp L _ hB1 (fun _ z => by cases z) nOwnL, fun z => ?_, fun v hv => ?_⟩
        · rcases (key L z).1 with y | y
          · exact hB2 y
          · rw [show S'.H L = none from y] at hB1; cases hB1
        · obtain ⟨q, a, b', c', e1, e2, e3, e4, e5, e6⟩ := hB3 v hv
          have noq : ¬ Own ⟨S2.F, S2.ρ.set ib .no, S2.σ, S2.H⟩ q := fun z => by
            rcases (key q z).1 with y | y
            · exact e5 y
            · rw [show S'.H q = none from y] at e2; cases e2
          have fq := keepF q _ e2 e4 e5
          by_cases hqb : q = b
          · subst hqb
            obtain ⟨p2, a2, b2', c2, d1, d2, d3, d4⟩ := ok2.slot ib _ hb1
            rw [hσ2] at d1
            cases Option.some.inj (Option.some.inj d1)
            exact ⟨q, a2, b2', c2, e1, d3, d4.le hle, fq, noq, e6⟩
          · exact ⟨q, a, b', c', e1, g2.kp q _ e2 (fun _ z => by cases z) (fun z => (ownp q z).elim e5 hqb), e3.le (by omega), fq, noq, e6⟩
  · have e : i = vs.length := by omega
    subst e
    exact .inl ⟨w.stops _ q, kk.nx S' (fin _ hI) ok' g'⟩
end
end DL
/-! names for the walks: operators, own defs, raise, three stores at once -/
namespace DL
open PySem PySem.Spec PyProof.Rows L2
/-- nothing is let out -/
abbrev noR : Er → List Sl → Prop := fun _ _ => False
abbrev subD : DOp := intD (fun i j => i - j) fun _ _ => True
abbrev divD : DOp := intD (fun i j => i / j) CDivD
abbrev modD : DOp := intD (fun i j => i % j) fun _ j => 0 < j
abbrev powD : DOp := intD (fun i j => i ^ j.toNat) CPow
abbrev ltD : DOp := cmpI fun i j => decide (i < j)
abbrev leD : DOp := cmpI fun i j => decide (i ≤ j)
abbrev gtD : DOp := cmpI fun i j => decide (j < i)
abbrev geD : DOp := cmpI fun i j => decide (j ≤ i)
/-- an own def, called by its name -/
structure Cal (P : Program) (w : World) (K : PySem.W.Frag) (mg : Str → Option Value) (base : Heap) (T : Tz) (k : Nat) (x : Str) (n : Nat) (sp : DSp) : Prop where
  ex : ∃ (f : Addr) (fd : FuncData) (ps : List Str), mg x = some (.ref f) ∧ PySem.W.keepIn K (.ref f) = true ∧ Binds K fd ps [] ∧ FnOk P w K mg base (L2N.CX P w) k f fd ps (toSp K T n sp)
/-- a def of the text, with its name in the module -/
structure FnF (K : PySem.W.Frag) (mg : Str → Option Value) (x : Str) (st : Stmt) (ps : List Str) : Prop where
  ex : ∃ (f : Addr) (fd : FuncData), mg x = some (.ref f) ∧ Fun K x x st f fd ∧ Binds K fd ps []
theorem Cal.mono {P : Program} {w : World} {K : PySem.W.Frag} {mg : Str → Option Value} {base : Heap} {T : Tz} {k k' n : Nat} {x : Str} {sp : DSp} (c : Cal P w K mg base T k x n sp) (h : k ≤ k') : Cal P w K mg base T k' x n sp :=
  let ⟨f, fd, ps, h1, h2, h3, h4⟩ := c.ex; ⟨f, fd, ps, h1, h2, h3, h4.mono h⟩
theorem toSp_imp {K : PySem.W.Frag} {T : Tz} {n : Nat} {sp sp' : DSp} (h : ∀ as Rr, sp' as Rr → sp as Rr) (vs : List V) (H : Hp) (Q : VK) (E : XK) (q : toSp K T n sp' vs H Q E) : toSp K T n sp vs H Q E := by
  obtain ⟨h0, F, as, Rr, h1, h2, h3, h4⟩ := q
  exact ⟨h0, F, as, Rr, h1, h2, h _ _ h3, h4⟩
theorem Cal.imp {P : Program} {w : World} {K : PySem.W.Frag} {mg : Str → Option Value} {base : Heap} {T : Tz} {k n : Nat} {x : Str} {sp sp' : DSp} (c : Cal P w K mg base T k x n sp) (h : ∀ as Rr, sp' as Rr → sp as Rr) : Cal P w K mg base T k x n sp' :=
  let ⟨f, fd, ps, h1, h2, h3, h4⟩ := c.ex; ⟨f, fd, ps, h1, h2, h3, h4.imp (toSp_imp h)⟩
theorem Cal.of {P : Program} {w : World} {K : PySem.W.Frag} {mg : Str → Option Value} {base : Heap} {x : Str} {st : Stmt} {N ps : List Str} {k n : Nat} {T : Tz} {sp : DSp} (F : FnF K mg x st ps) (Sc : FnScope N ps (defScope st)) (hn : ps.length = n) (t : (Er → List Sl → Prop) → TSd)
    (hw : ∀ (f : Addr) (cdv : Value) (A : Around) (outer : List Env) (s : Shared) (H : Hp) (E : XK) (S0 : Sx) (W : WX) (R : Er → List Sl → Prop), PSsd ⟨cxD P w K mg base N x st f cdv A outer s H E, T, S0, W, R, k⟩ (defBody st) (t R))
    (law : ∀ as Rr, as.length = n → sp as Rr → t (fun er ρ => Rr (.er er) (outs as ρ)) (bodyEd as Rr) (as ++ List.replicate (N.length - n) .no)) : Cal P w K mg base T (k + 1) x n sp :=
  let ⟨f, fd, h1, h2, h3⟩ := F.ex; ⟨f, fd, ps, h1, h2.kp, h3, dfun h2 Sc hn t (hw f) law⟩
theorem FnF.mk' {K : PySem.W.Frag} {mg : Str → Option Value} {x : Str} {st : Stmt} {ps : List Str} {f : Addr} {fd : FuncData} (h1 : mg x = some (.ref f)) (h2 : Fun K x x st f fd)
    (h : ∀ (kV doc pm : Value) (an : Option Addr) (cdv ct : Value) (us : List Value), us.length = ps.length → bindArgs (PySem.W.fnOf x x (defArgs st) (defBody st) (defScope st) .none kV doc pm an cdv ct) ⟨us, []⟩ = pure (ps.zip us)) : FnF K mg x st ps := ⟨f, fd, h1, h2, h2.binds h⟩
section
variable {C : Cd} {e : Expr} {es : List Expr} {ta : TAd} {pos p : Pos} {x : Str} {k n : Nat} {sp : DSp}
theorem d_own (G : Cal C.X.prog C.X.w C.X.K C.X.mg C.X.base C.T k x n sp) (hk : k ≤ C.k) (ha : PAd C (e :: es) ta) (hn : (e :: es).length = n := by rfl) (hg : Gl C.X x := by exact rfl) (hdb : (x == ("__debug__" : Str)) = false := by decide)
    (he : starEach (e :: es) C.X.env = (false, eval e C.X.env) :: starEach es C.X.env := by rfl) (hpl : (backTo pos (starEach es C.X.env)).any (·.1) = false := by rfl) : PEd C (.Call (.Name x p) (e :: es) [] pos) (rCall C.R sp ta) :=
  let ⟨_, _, _, h1, h2, h3, h4⟩ := G.ex; d_call h4 hk hn hg h1 h2 h3 ha hdb he hpl
theorem d_ownR (G : Cal C.X.prog C.X.w C.X.K C.X.mg C.X.base C.T k x n sp) (hk : k ≤ C.k) (ha : PAd C (e :: es) ta) (hn : (e :: es).length = n := by rfl) (hg : Gl C.X x := by exact rfl) (hdb : (x == ("__debug__" : Str)) = false := by decide)
    (he : starEach (e :: es) C.X.env = (false, eval e C.X.env) :: starEach es C.X.env := by rfl) (hpl : (backTo pos (starEach es C.X.env)).any (·.1) = false := by rfl) : PEd C (.Call (.Name x p) (e :: es) [] pos) (rCallB C.R sp ta) :=
  let ⟨_, _, _, h1, h2, h3, h4⟩ := G.ex; d_callR h4 hk hn hg h1 h2 h3 ha hdb he hpl
end
/-! ### raise X('m') -/
structure ExF (K : PySem.W.Frag) (mg : Str → Option Value) (x : Str) (a : Addr) : Prop where
  g : mg x = some (.ref a)
  ex : PySem.W.excIn K a [.type "ValueError", .type "Exception", .type "BaseException", .type "object"] "ValueError.__new__" = true
  kp : PySem.W.keepIn K (.ref a) = true
  sub : PySem.W.subIn K (.ref a) (.type "BaseException") = some true
  ty : PySem.W.typeIn K (.ref a) = some (.type "type")
def rRaise (R : Er → List Sl → Prop) (a : Addr) : TSd := fun _ ρ => R ⟨a, []⟩ ρ
theorem ds_raise {C : Cd} {x m : Str} {j : Nat} {p p2 pos pos' : Pos} {a : Addr} (F : ExF C.X.K C.X.mg x a) (hg : Gl C.X x := by exact rfl) (hdb : (x == ("__debug__" : Str)) = false := by decide) :
    PSd C (.Raise (some (.Call (.Name x p) [.Constant (.str m) j p2] [] pos)) none pos') (rRaise C.R a) := fun c S E D ok g0 h k =>
  wS.of (L2N.ps_raise c.calm c.tk (L2N.pmk_own PySem.F.excBase_ValueError F.ex F.g F.kp (raises_own F.sub F.ty) hg hdb)) (c.lk ⟨a, []⟩ S (.ref a) none h ok g0 ⟨rfl, .inl ⟨rfl, rfl⟩⟩)
/-! ### a, b, c = e1, e2, e3 -/
def par3O (i j l : Nat) (k : List Sl → Prop) : Option (List D × List Sl) → Prop
  | some ([d1, d2, d3], ρ) => k (((ρ.set i (.sh d1)).set j (.sh d2)).set l (.sh d3))
  | _ => False
def rPar3 (i j l : Nat) (ta : TAd) : TSd := fun E ρ => ta ρ fun rs ρ1 => par3O i j l E.nx (clL ρ1 rs)
theorem ds_par3 {C : Cd} (i j l : Nat) {x y z : Str} {a b c : Expr} {ta : TAd} {px py pz pt pos : Pos} {kt k2 pt2} (hi : C.X.N[i]? = some x) (hj : C.X.N[j]? = some y) (hl : C.X.N[l]? = some z) (hij : i ≠ j) (hil : i ≠ l) (hjl : j ≠ l)
    (hx : C.X.env.scope.names.lookup x = some .local) (hy : C.X.env.scope.names.lookup y = some .local) (hz : C.X.env.scope.names.lookup z = some .local) (ha : PAd C [a, b, c] ta)
    (hw : swappedStores [.Tuple [.Name x px, .Name y py, .Name z pz] kt pt] (.Tuple [a, b, c] k2 pt2) C.X.env = pure (some [x, y, z]))
    (hs : swapsWithSole [.Tuple [.Name x px, .Name y py, .Name z pz] kt pt] (.Tuple [a, b, c] k2 pt2) pos.line C.X.env = pure false := by rfl) :
    PSd C (.Assign [.Tuple [.Name x px, .Name y py, .Name z pz] kt pt] (.Tuple [a, b, c] k2 pt2) pos) (rPar3 i j l ta) := fun cw S E D ok g0 h k => by
  refine wS.of (ps_par3 cw.calm cw.nd hi hj hl hij hil hjl hx hy hz pa_w hw hs) ?_
  refine ha cw S _ _ ok g0 h fun rs vs F1 ρ1 H1 q1 ok1 g1 r1 hlen => ?_
  have q1 : par3O i j l E.nx (clL ρ1 rs) := q1
  unfold par3O at q1
  split at q1
  · rename_i d1 d2 d3 ρ2 e1
    obtain ⟨F2, ok2, g2, gF, rr⟩ := cleanL (S0 := S) ok1 g1 r1 e1
    cases rr with
    | @cons v1 _ _ _ ra rr =>
      cases rr with
      | @cons v2 _ _ _ rb rr =>
        cases rr with
        | @cons v3 _ _ _ rc rr =>
          cases rr
          refine ⟨v1, v2, v3, rfl, ?_⟩
          have o1 := Ok.put (S := S.to F2 ρ2 H1) ok2 (i := i) (s := .sh d1) (v := v1) ⟨v1, rfl, ra⟩ (fun z => by cases z)
          have p1 := Go.put (S := S.to F2 ρ2 H1) g2 (i := i) (s := .sh d1) (v := v1) (fun z => by cases z)
          have o2 := Ok.put o1 (i := j) (s := .sh d2) (v := v2) ⟨v2, rfl, rb⟩ (fun z => by cases z)
          have p2 := Go.put p1 (i := j) (s := .sh d2) (v := v2) (fun z => by cases z)
          have o3 := Ok.put o2 (i := l) (s := .sh d3) (v := v3) ⟨v3, rfl, rc⟩ (fun z => by cases z)
          have p3 := Go.put p2 (i := l) (s := .sh d3) (v := v3) (fun z => by cases z)
          exact k.nx _ q1 o3 p3
  · exact q1.elim

/-! ### shorter words -/
theorem bt_len : bootBuiltins "len" = some (.builtin "len") := by decide +kernel
theorem bt_all : bootBuiltins "all" = some (.builtin "all") := by decide +kernel
theorem bt_any : bootBuiltins "any" = some (.builtin "any") := by decide +kernel
theorem bt_sum : bootBuiltins "sum" = some (.builtin "sum") := by decide +kernel
theorem bt_max : bootBuiltins "max" = some (.builtin "max") := by decide +kernel
theorem bt_min : bootBuiltins "min" = some (.builtin "min") := by decide +kernel
theorem bt_int : bootBuiltins "int" = some (.type "int") := by decide +kernel
theorem bt_bool : bootBuiltins "bool" = some (.type "bool") := by decide +kernel
theorem bt_str : bootBuiltins "str" = some (.type "str") := by decide +kernel
theorem bt_list : bootBuiltins "list" = some (.type "list") := by decide +kernel
theorem bt_tuple : bootBuiltins "tuple" = some (.type "tuple") := by decide +kernel
section
variable {C : Cd}
theorem dv (i : Nat) {x : Str} {pos : Pos} (hN : C.X.N[i]? = some x := by rfl) (hv : Vis C.X.env.scope x := by first | exact Or.inl rfl | exact Or.inr (Or.inl rfl) | exact Or.inr (Or.inr rfl)) (hd : (x == ("__debug__" : Str)) = false := by decide)
    (hcd : (x == ("__classdict__" : Str)) = false := by decide) : PEd C (.Name x pos) (rVar i) := d_var i hN hv hd hcd
theorem pa_ty0 {X : Cx} : PA X [] (fun _ H Q => Q (([] : List Ty5).map fun t => V.ty t.nm) H) := pa_nil
theorem pa_ty1 {X : Cx} {y : Str} {p : Pos} {es : List Expr} {ts : List Ty5} (t : Ty5) (hg : Gl X y) (hm : X.mg y = none) (hv : bootBuiltins y = some (.type t.nm)) (h : PA X es (fun _ H Q => Q (ts.map fun t => V.ty t.nm) H))
    (hn : y ≠ "__name__" := by decide) (hd : (y == ("__debug__" : Str)) = false := by decide) (hs : starEach (.Name y p :: es) X.env = (false, eval (.Name y p) X.env) :: starEach es X.env := by rfl) :
    PA X (.Name y p :: es) (fun _ H Q => Q ((t :: ts).map fun t => V.ty t.nm) H) :=
  show PA X (.Name y p :: es) (tCons (tC (.ty t.nm)) (fun _ H Q => Q (ts.map fun t => V.ty t.nm) H)) from pa_cons (pe_bltn (v := .ty t.nm) hg hm hv rfl hn hd) h hs
end
end DL
/-! readings run: words for comprehensions, places -/
namespace DL
open PySem PySem.Spec PyProof.Rows L2
/-- from the end: xs[-1 - i] -/
theorem atI_neg {α : Type} {xs : List α} {i : Nat} {x : α} {z : Int} (hz : z = -1 - (i : Int)) (h : xs.reverse[i]? = some x) : atI xs z = some x := by
  have hl := (List.getElem?_eq_some_iff.mp h).1
  rw [List.length_reverse] at hl
  have e : ixN xs.length z = some (xs.length - 1 - i) := by
    unfold ixN
    rw [if_neg (by omega), if_pos (by omega)]
    congr 1
    omega
  unfold atI
  rw [e]
  rw [List.getElem?_reverse hl] at h
  exact h
theorem kv {Rr : Res → List Sl → Prop} {d d' : D} {post : List Sl} (k : ∀ post, Rr (.val d) post) (e : d = d') : Rr (.val d') post := e ▸ k post
theorem kb {Rr : Res → List Sl → Prop} {b b' : Bool} {post : List Sl} (k : ∀ post, Rr (.val (.bl b)) post) (e : b = b') : Rr (.val (.bl b')) post := e ▸ k post
theorem kn {Rr : Res → List Sl → Prop} {d d' : List D} {post : List Sl} (k : ∀ post, Rr (.new d) post) (e : d = d') : Rr (.new d') post := e ▸ k post
theorem unw_wip (ρ : List Sl) (vs : List Nat) : unw ρ vs (wip ρ vs) = ρ := by
  have hl : (wip ρ vs).length = ρ.length := by
    induction vs with
    | nil => rfl
    | cons v vs ih => unfold wip; rw [List.length_set, ih]
  apply List.ext_getElem?
  intro j
  by_cases hj : j ∈ vs
  · cases e : (unw ρ vs (wip ρ vs))[j]? with
    | none =>
      have h1 := List.getElem?_eq_none_iff.mp e
      rw [unw_length, hl] at h1
      exact (List.getElem?_eq_none_iff.mpr h1).symm
    | some s => exact (unw_in hl hj e).symm
  · rw [unw_out hj, wip_out hj]
/-- what a comprehension has gathered: F i is the i-th item's, or none -/
def accF (F : Nat → Option D) (i : Nat) : List D := (List.range i).filterMap F
theorem acc_some {F : Nat → Option D} {i : Nat} {y : D} (h : F i = some y) : accF F i ++ [y] = accF F (i + 1) := by
  unfold accF
  rw [List.range_succ, List.filterMap_append]
  simp [h]
theorem acc_none {F : Nat → Option D} {i : Nat} (h : F i = none) : accF F i = accF F (i + 1) := by
  unfold accF
  rw [List.range_succ, List.filterMap_append]
  simp [h]
theorem acc_len {F : Nat → Option D} {i : Nat} : (accF F i).length ≤ i := by
  have := List.length_filterMap_le F (List.range i)
  rw [List.length_range] at this
  exact this
/-- each item gives one -/
theorem acc_all {n : Nat} {G : Nat → D} : accF (fun i => some (G i)) n = (List.range n).map G := by
  unfold accF
  rw [← List.filterMap_eq_map]
  rfl
/-- those for which p -/
theorem acc_if {n : Nat} {p : Nat → Bool} {G : Nat → D} : accF (fun i => if p i then some (G i) else none) n = ((List.range n).filter p).map G := by
  unfold accF
  induction n with
  | zero => rfl
  | succ n ih =>
    rw [List.range_succ, List.filterMap_append, ih, List.filter_append, List.map_append]
    congr 1
    by_cases h : p n <;> simp [h]
theorem take_snoc {α β : Type} {xs : List α} {g : α → β} {i : Nat} {d : α} (h : xs[i]? = some d) : (xs.take i).map g ++ [g d] = (xs.take (i + 1)).map g := by
  rw [List.take_add_one, h, List.map_append]
  rfl
theorem take_all' {α β : Type} {xs : List α} {g : α → β} : (xs.take xs.length).map g = xs.map g := by rw [List.take_length]
end DL
/-! the law's def -/
namespace DL
open PySem PySem.Spec PyProof.Rows L2
def forBody : Stmt → List Stmt
  | .For _ _ b _ _ => b
  | _ => []
def spLawD (K : PySem.W.Frag) : Sp := fun vs H Q _ => ∃ (a : Addr) (ns : List Int), vs = [.ref a] ∧ Only H ∧ SqL K H a (ns.map V.int) ∧ ∀ H', Q (.bl true) H'
/-- the end of a law: it tells true -/
def lawEd : Ed := ⟨fun _ => False, fun r _ => r = .val (.bl true), fun _ => False, fun _ => False⟩
theorem dlaw {P : Program} {w : World} {K : PySem.W.Frag} {mg : Str → Option Value} {base : Heap} {st st0 : Stmt} {rest : List Stmt} {f : Addr} {fd : FuncData} {N : List Str} {k ib : Nat} {m : Int} {tl tr : TSd} (F : Fun K "law" "law" st f fd) (Sc : FnScope N ["script"] (defScope st))
    (hb : defBody st = st0 :: rest)
    (hfor : ∀ (cdv : Value) (A : Around) (outer : List Env) (s : Shared) (H : Hp) (E : XK) (S0 : Sx) (W : WX), Cd.Wf ⟨cxD P w K mg base N "law" st f cdv A outer s H E, [], S0, W, fun _ _ => False, k⟩ →
      ∀ (S : Sx) (E' : Ed) (D : Ends), Ok K [] S → Go S0 S → (∀ a o, S.F a = some o → ∃ u xs, o = .frz u (.lst xs)) → (∀ (j : Nat) (s : Sl), S.ρ[j]? = some s → s.owned = false) → rBags 0 ib m tl E' S.ρ →
        Endd ⟨cxD P w K mg base N "law" st f cdv A outer s H E, [], S0, W, fun _ _ => False, k⟩ S E' D → wS (cxD P w K mg base N "law" st f cdv A outer s H E) st0 D S.σ S.H)
    (hrest : ∀ (cdv : Value) (A : Around) (outer : List Env) (s : Shared) (H : Hp) (E : XK) (S0 : Sx) (W : WX), PSsd ⟨cxD P w K mg base N "law" st f cdv A outer s H E, [], S0, W, fun _ _ => False, k⟩ rest tr)
    (law : ∀ ns : List Int, rBags 0 ib m tl { nx := tr lawEd, rt := fun _ _ => False } (.scr ns :: List.replicate (N.length - 1) .no)) :
    FnOk P w K mg base (L2N.CX P w) (k + 1) f fd ["script"] (spLawD K) := by
  refine okN F Sc (fun vs H Q E h => ?_) fun cdv A outer s H vs Q E hr h => ?_
  · obtain ⟨a, ns, rfl, _⟩ := h
    rfl
  · obtain ⟨a, ns, rfl, hO, hS, hq⟩ := h
    refine ⟨wSs _ (defBody st), pss_w, ?_⟩
    let S0 : Sx := ⟨H, .scr ns :: List.replicate (N.length - 1) .no, L2.start N [.ref a], H⟩
    let C : Cd := ⟨cxD P w K mg base N "law" st f cdv A outer s H E, [], S0, fun cls d _ H => E cls d H, fun _ _ => False, k⟩
    have wf : C.Wf := ⟨L2N.takes_of rfl rfl rfl rfl, hr, rfl, Sc.nd, PassesOwn.leaving, fun _ _ _ _ z => z.elim⟩
    have slots : ∀ (j : Nat) (t : Sl), (Sl.scr ns :: List.replicate (N.length - 1) Sl.no)[j]? = some t → (j = 0 ∧ t = .scr ns) ∨ t = .no := fun j t h => by
      cases j with
      | zero => left; simpa using h.symm
      | succ j =>
        right
        have h : (List.replicate (N.length - 1) Sl.no)[j]? = some t := by simpa using h
        rw [List.getElem?_replicate] at h
        split at h
        · exact (Option.some.inj h).symm
        · cases h
    have ok0 : Ok K [] S0 := by
      refine ⟨fun a o h => h, fun t ht => (by cases ht), ?_, fun j t h => ?_, fun i j t u b h1 h2 w1 w2 _ _ => ?_⟩
      · show (Sl.scr ns :: List.replicate (N.length - 1) Sl.no).length = (L2.start N [V.ref a]).length
        unfold L2.start
        simp
      · rcases slots j t h with ⟨rfl, rfl⟩ | rfl
        · exact ⟨a, rfl, hS⟩
        · trivial
      · rcases slots i t h1 with ⟨_, rfl⟩ | rfl
        · cases w1
        · cases w1
    rw [hb]
    refine wSs.of (pss_cons ps_w pss_w) ?_
    refine hfor cdv A outer s H E S0 _ wf S0 { nx := tr lawEd, rt := fun _ _ => False } _ ok0 (Go.refl _) (fun b o h => ?_) (fun j t h => ?_) (law ns) ⟨fun S' q ok' g' => ?_, fun _ z _ _ => (show False from z).elim, fun _ z _ _ => (show False from z).elim, fun _ _ _ z _ _ _ => (show False from z).elim⟩
    · rcases hO b with z | ⟨u, xs, z⟩
      · rw [show H b = some o from h] at z; cases z
      · rw [show H b = some o from h] at z
        cases z
        exact ⟨u, xs, rfl⟩
    · rcases slots j t h with ⟨_, rfl⟩ | rfl <;> rfl
    · refine hrest cdv A outer s H E S0 _ wf S' lawEd _ ok' g' q ⟨fun _ z _ _ => (show False from z).elim, fun _ z _ _ => (show False from z).elim, fun _ z _ _ => (show False from z).elim, fun r v S2 e _ _ hv => ?_⟩
      have e : r = .val (.bl true) := e
      subst e
      have hv : Rp K S2.F v (.bl true) := hv
      cases hv
      exact hq _
theorem cx_none {P : Program} {w : World} {H : Hp} {s : Shared} {e : Value} {s' : Shared} (h : L2N.CX P w [] H s (fun _ _ _ => False) e s') : False := by
  obtain ⟨_, _, _, _, _, _, _, _, _, _, _, _, z⟩ := h
  exact z.elim
end DL
/-! what the top has written -/
namespace DL
open PySem PySem.Spec PyProof.Rows L2
/-- a def as the top has written it -/
def DefIn (K : PySem.W.Frag) (x : Str) (st : Stmt) : Prop :=
  ∃ (f : Addr) (oc : Value) (od : Option Addr) (kV doc pm : Value) (an : Option Addr) (cdv ct : Value) (osl : Array (Option Value)), PySem.W.nsIn K mainGlobals x = some (some (.ref f)) ∧
    K.lookup f = some ⟨oc, od, .func (PySem.W.fnOf x x (defArgs st) (defBody st) (defScope st) .none kV doc pm an cdv ct), osl⟩ ∧ PySem.W.codeIn K cdv x = true ∧ PySem.W.keepIn K (.ref f) = true
def ExcIn (K : PySem.W.Frag) (x : Str) : Prop := ∃ a : Addr, PySem.W.nsIn K mainGlobals x = some (some (.ref a)) ∧ PySem.W.excIn K a [.type "ValueError", .type "Exception", .type "BaseException", .type "object"] "ValueError.__new__" = true ∧
  PySem.W.keepIn K (.ref a) = true ∧ PySem.W.subIn K (.ref a) (.type "BaseException") = some true ∧ PySem.W.typeIn K (.ref a) = some (.type "type")
section
variable {P : Program} {w : World} {K : PySem.W.Frag} {mg : Str → Option Value} {base h : Heap} {x : Str} {st : Stmt} {ps : List Str} {k n : Nat} {T : Tz} {sp : DSp}
theorem DefIn.fn (d : DefIn K x st) (X : K.In h) (G : h.Ns mainGlobals mg)
    (hb : ∀ (kV doc pm : Value) (an : Option Addr) (cdv ct : Value) (us : List Value), us.length = ps.length → bindArgs (PySem.W.fnOf x x (defArgs st) (defBody st) (defScope st) .none kV doc pm an cdv ct) ⟨us, []⟩ = pure (ps.zip us)) : FnF K mg x st ps := by
  obtain ⟨f, oc, od, kV, doc, pm, an, cdv, ct, osl, h1, h2, h3, h4⟩ := d
  exact FnF.mk' (PySem.W.mg_of X G h1) (fun_mk (st := st) h2 h3 h4) hb
theorem ExcIn.ex (d : ExcIn K x) (X : K.In h) (G : h.Ns mainGlobals mg) : ∃ a, ExF K mg x a :=
  let ⟨a, h1, h2, h3, h4, h5⟩ := d
  ⟨a, PySem.W.mg_of X G h1, h2, h3, h4, h5⟩
/-- nothing is asked of it -/
theorem Cal.none (F : FnF K mg x st ps) (hn : ps.length = n) (h : ∀ as Rr, ¬ sp as Rr) : Cal P w K mg base T k x n sp :=
  let ⟨f, fd, h1, h2, h3⟩ := F.ex
  ⟨f, fd, ps, h1, h2.kp, h3, ⟨fun _ _ _ _ q => q.1.trans hn.symm, fun _ _ _ _ _ _ _ _ _ _ _ _ _ q => let ⟨_, _, as, Rr, _, _, z, _⟩ := q; absurd z (h as Rr)⟩⟩
end
end DL
/-! while an error is handled: lists walked by zip -/
namespace DL
open PySem PySem.Spec PyProof.Rows L2 HotX
/-- the handled error's object, as the heap has it -/
def ErrAt (x1 : Addr) (h : Heap) : Prop := ∃ (o : Obj) (vs : Array Value), h.get? x1 = some o ∧ o.data = .fields vs ∧ vs[2]? = some .none
section
variable {prog : Program} {w : World} {A : Around} {E : Value → Shared → Prop} {s : Shared}
theorem list_end_hot {it l x1 : Addr} {i : Nat} {items : Array Value} {Q : Value → Shared → Prop} (hh : A.handled = some (.ref x1)) (he : ErrAt x1 s.heap) (nx : it ≠ x1) (hit : s.heap.IsListIter it l i) (hl : s.heap.IsList l items) (hx : items[i]? = none)
    (hE : ∀ h' e, Heap.ExtBut it s.heap h' → (∃ o, h'.get? e = some o ∧ o.cls = .type "StopIteration") → E (.ref e) { s with heap := h' }) : wpAny (model prog w) A (Builtin.SmallTypes.nextOf (.ref it)) Q E s := by
  obtain ⟨o1, vs1, g1, d1, c1⟩ := he
  obtain ⟨ob, gob, cob, dob⟩ := id hit
  obtain ⟨ol, gol, _, nl, dol⟩ := hl
  unfold Builtin.SmallTypes.nextOf
  refine wpAny_bind (wpAny_callSpecial?_slot (name := Str.ofString "__next__") hit.typeIs slot_listiter_next (wpAny_call_entry slot_listiter_next hit.typeIs entry_listiter_next ?_ (args_listiter_next _)))
  show wpAny _ _ (field (.ref it) 0 >>= _) _ _ s
  refine wpAny_bind (wpAny_field gob dob (x := .ref l) rfl ?_)
  show wpAny _ _ (if (Value.ref l == Value.none) = true then _ else _) _ _ s
  rw [if_neg (show ¬ ((Value.ref l == Value.none) = true) from Bool.false_ne_true)]
  show wpAny _ _ (field (.ref it) 1 >>= _) _ _ s
  refine wpAny_bind (wpAny_field gob dob (x := .int i 0) rfl ?_)
  show wpAny _ _ (seqItems? (.ref l) >>= _) _ _ s
  refine wpAny_bind (wpAny_seqItems gol dol ?_)
  simp only [Int.toNat_natCast, hx]
  refine wpAny_bind (wpAny_rule (wpAny_bind (wpAny_setField gob dob (by simp) ?_)))
  show wpAny _ _ (newExc (.type "StopIteration") [] >>= _) _ _ _
  refine wpAny_bind ?_
  simp only [newExc, newTuple]
  refine wpAny_bind (wpAny_newObj_type ?_ (by size_fits))
  refine wpAny_bind (m := firstArgMember _ _) (wpAny_of_eq (a := Value.none) (by first | rfl | (simp only [firstArgMember]; rfl)) ?_)
  refine wpAny_newObj_type ?_ (by size_fits)
  generalize hh1 : s.heap.update it (Obj.mapFields (·.setIfInBounds 0 Value.none)) = h1
  have e1 : h1.get? x1 = some o1 := by rw [← hh1, Heap.get?_update_other _ _ nx]; exact g1
  have x1b : Heap.ExtBut it s.heap h1 := by rw [← hh1]; exact (Heap.SameBut.update ..).extBut
  have sz : ∀ b o, h1.get? b = some o → b < h1.objs.size := fun b o e => Heap.lt_size e
  refine raiseNew_hot (x1 := x1) ⟨hh, o1, vs1, Heap.get?_push_of_some _ (Heap.get?_push_of_some _ e1), d1, c1⟩ (Nat.ne_of_lt (Heap.lt_size (Heap.get?_push_of_some _ e1))) (Heap.get?_push_size _ rfl) rfl (by first | (simp; done) | (simp; omega) | (simp only [Array.size_append]; simp; omega)) ?_
  refine hE _ _ (fun b o nb e => ?_) ⟨_, Heap.get?_update_self _ (Heap.get?_push_size _ rfl) rfl, rfl⟩
  have eb := x1b b o nb e
  rw [Heap.get?_update_other _ _ (Nat.ne_of_gt (Heap.lt_size (Heap.get?_push_of_some _ eb)))]
  exact Heap.get?_push_of_some _ (Heap.get?_push_of_some _ eb)
theorem drawsHot {x1 : Addr} (hh : A.handled = some (.ref x1)) (it l : Addr) (hne : l ≠ it) (nx : it ≠ x1) (items : Array Value) :
    Draws prog w A it [it, l, x1] items.size (fun i v => items[i]? = some v) (fun i h => (h.IsListIter it l i ∧ h.IsList l items) ∧ ErrAt x1 h) where
  live := fun _ _ st => let ⟨o, ho, _⟩ := st.1.1; ⟨o, ho⟩
  frame := fun _ _ _ st hk => ⟨⟨st.1.1.at fun o e => hk it (by simp) o e, st.1.2.at fun o e => hk l (by simp) o e⟩, let ⟨o, vs, e1, e2, e3⟩ := st.2; ⟨o, vs, hk x1 (by simp) o e1, e2, e3⟩⟩
  item := fun i s Q E hi st hQ => by
    refine wpAny_nextOf_list_item st.1.1 st.1.2 (x := items[i]) (by simp [hi]) fun h' hit' hs' => ?_
    obtain ⟨o, vs, e1, e2, e3⟩ := st.2
    exact hQ _ h' s.toks (by simp [hi]) ⟨⟨hit', st.1.2.extBut hs'.extBut hne⟩, o, vs, hs'.extBut x1 o (Ne.symm nx) e1, e2, e3⟩ hs'
  done := fun s Q E st hE => list_end_hot hh st.2 nx st.1.1 st.1.2 (by simp) hE
end
end DL
/-! a list comprehension over zip, run while an error is handled -/
namespace DL
open PySem PySem.Spec PyProof.Rows L2 HotX
/-- as the hand layer's Turn, the handled error pinned in place of a calm context -/
structure TurnQ (P : Program) (w : World) (K : PySem.W.Frag) (tg : Expr) (J : It) (fp : List Addr) (it : Addr) (tn : Nat → Heap → Prop) : Prop where
  mem : it ∈ fp
  obj : ∀ i hp, tn i hp → ∀ b ∈ fp, ∃ o, hp.get? b = some o ∧ ∀ v, o.data ≠ .cell v
  keep : ∀ i hp hp', tn i hp → (∀ b ∈ fp, ∀ o, hp.get? b = some o → hp'.get? b = some o) → tn i hp'
  item : ∀ (X : Cx), X.prog = P → X.w = w → X.K = K → ∀ (i : Nat) (pins : List (Addr × Obj)) (s : Shared) (σ : L2.St) (H : Hp) (E : Value → Shared → Prop), (∃ p, L2H.Hot1 X.A p ∧ p ∈ X.pn ++ pins) → Inv X pins σ H s → (∀ b ∈ fp, FpOk X pins H b) → tn i s.heap → J.go i H →
    wpAny (model P w) X.A (pyNext (.ref it)) (fun r s1 => ∃ u, r = some u ∧
      wpAny (model P w) X.A (letOwnedTupleGo tg (.ref it) u) (fun _ s2 => ∃ x H', Inv X pins σ H' s2 ∧ RelV x u ∧ J.yld i H x H' ∧ tn (i + 1) s2.heap ∧ ∀ b ∈ fp, H' b = none) E s1) E s
  done : ∀ (X : Cx), X.prog = P → X.w = w → X.K = K → ∀ (i : Nat) (pins : List (Addr × Obj)) (s : Shared) (σ : L2.St) (H : Hp) (E : Value → Shared → Prop), (∃ p, L2H.Hot1 X.A p ∧ p ∈ X.pn ++ pins) → Inv X pins σ H s → (∀ b ∈ fp, FpOk X pins H b) → tn i s.heap → J.stop i H →
    wpAny (model P w) X.A (pyNext (.ref it)) (fun r s1 => r = none ∧ Inv X pins σ H s1) E s
  self : ∀ (A : Around) (i : Nat) (s : Shared) (Q : Value → Shared → Prop) (E : Value → Shared → Prop), tn i s.heap → Q (.ref it) s → wpAny (model P w) A (pyIter (.ref it)) Q E s
/-- the walk of two lists that stops just where the shorter one ends -/
def ItzQ (K : PySem.W.Frag) (a b : Addr) : It :=
  ⟨(Itz K a b).go, (Itz K a b).yld, fun i H => ∃ xs ys : List V, SqL K H a xs ∧ SqL K H b ys ∧ i ≤ xs.length ∧ i ≤ ys.length ∧ (i = xs.length ∨ i = ys.length)⟩
theorem turnq_zip {P : Program} {w : World} {K : PySem.W.Frag} {elts : List Expr} {kk : Nat} {tpos : Pos} {a b z TI TO i1 i2 : Addr} (D : ZipApart z TI TO i1 i2 a b) :
    TurnQ P w K (.Tuple elts kk tpos) (ItzQ K a b) [z, TI, TO, i1, i2] z (fun i h => IsZip h z TI TO .none ∧ IsPair h TI (.ref i1) (.ref i2) ∧ (∃ x y, IsPair h TO x y) ∧ h.IsListIter i1 a i ∧ h.IsListIter i2 b i) where
  mem := (turn_zip (P := P) (w := w) (K := K) (elts := elts) (kk := kk) (tpos := tpos) D).mem
  obj := (turn_zip (P := P) (w := w) (K := K) (elts := elts) (kk := kk) (tpos := tpos) D).obj
  keep := (turn_zip (P := P) (w := w) (K := K) (elts := elts) (kk := kk) (tpos := tpos) D).keep
  self := (turn_zip (P := P) (w := w) (K := K) (elts := elts) (kk := kk) (tpos := tpos) D).self
  item := by
    intro X hP hw hK i pins s σ H E hot I hf st hg
    subst hP hw hK
    obtain ⟨oz, oTI, ⟨v0, w0, oTO⟩, k1, k2⟩ := st
    obtain ⟨xs, ys, x, y, lx, ly, ex, ey⟩ := hg
    obtain ⟨us, rx, px, _⟩ := I.list lx
    obtain ⟨vs, ry, py, _⟩ := I.list ly
    obtain ⟨u, eu, ru⟩ := rx.get ex
    obtain ⟨v, ev, rv⟩ := ry.get ey
    have zlt : z < s.heap.objs.size := Heap.lt_size oz
    refine wpAny_pyNext_zip_item D oz oTI oTO k1 k2 px.isList py.isList (x := u) (y := v) (by simpa using eu) (by simpa using ev) fun g1 z1 t1 m1 m2 nT nsz nk => ?_
    refine ⟨_, rfl, wpAny_letOwnedTupleGo_zip (s := { s with heap := g1 }) z1 fun g2 z2 sb => ?_⟩
    have nT2 : g2.get? s.heap.objs.size = some { cls := .type "tuple", data := .seq #[u, v] } := (sb.2 _ (Nat.ne_of_gt zlt)).trans nT
    have fresh : ObjOk X.prog X.w (upd H s.heap.objs.size (.tup [x, y])) g2 s.heap.objs.size (.tup [x, y]) := ⟨by show 2 ≤ sizeLine; decide, [u, v], .cons ru (.cons rv .nil), ⟨_, nT2, rfl, _, rfl⟩⟩
    have J : Inv X pins σ (upd H s.heap.objs.size (.tup [x, y])) { s with heap := g2 } :=
      I.turnedNew (t' := s.toks) (ch := [z, TI, TO, i1, i2]) (fun c o nb q => (sb.2 c (fun q' => nb (by simp [q']))).trans (nk c o (fun q' => nb (by simp [q'])) (fun q' => nb (by simp [q'])) (fun q' => nb (by simp [q'])) (fun q' => nb (by simp [q'])) q)) hf (Nat.le_refl _) fresh
    refine ⟨.ref s.heap.objs.size, _, J, rfl, ⟨_, x, y, rfl, I.hok.fresh (Nat.le_refl _), rfl, fun l q => by rw [I.list_inj q lx]; exact ex, fun l q => by rw [I.list_inj q ly]; exact ey⟩, ⟨z2, (sb.2 _ D.TIz).trans (nk _ _ D.TIz D.TITO D.TIi1 D.TIi2 oTI), ⟨u, v, (sb.2 _ D.TOz).trans t1⟩, m1.at fun o q => (sb.2 _ D.i1z).trans q, m2.at fun o q => (sb.2 _ D.i2z).trans q⟩, fun c hc => ?_⟩
    have lt : c < s.heap.objs.size := by
      have cc : c = z ∨ c = TI ∨ c = TO ∨ c = i1 ∨ c = i2 := by simpa using hc
      obtain ⟨_, y1, _⟩ := k1
      obtain ⟨_, y2, _⟩ := k2
      rcases cc with q | q | q | q | q <;> rw [q]
      · exact zlt
      · exact Heap.lt_size oTI
      · exact Heap.lt_size oTO
      · exact Heap.lt_size y1
      · exact Heap.lt_size y2
    rw [upd_ne (Nat.ne_of_lt lt)]
    exact (hf c hc).1
  done := by
    intro X hP hw hK i pins s σ H E hot I hf st hg
    subst hP hw hK
    obtain ⟨p, ⟨hh, ws, dp, cp⟩, hp⟩ := hot
    obtain ⟨oz, oTI, ⟨v0, w0, oTO⟩, k1, k2⟩ := st
    obtain ⟨xs, ys, lx, ly, le1, le2, hend⟩ := hg
    obtain ⟨us, rx, px, _⟩ := I.list lx
    obtain ⟨vs, ry, py, _⟩ := I.list ly
    have n1 := rx.length
    have n2 := ry.length
    have pin := I.pin p hp
    have er : ErrAt p.1 s.heap := ⟨p.2, ws, pin.1, dp, cp⟩
    have ap : ∀ c ∈ [z, TI, TO, i1, i2], c ≠ p.1 := fun c hc e => (hf c hc).2.2.2.2.2 p hp e.symm
    have hmin : i ≤ us.length ∧ i ≤ vs.length → (i = us.length ∨ i = vs.length) → wpAny (model X.prog X.w) X.A (pyNext (.ref z)) (fun r s1 => r = none ∧ Inv X pins σ H s1) E s := fun hle heq => by
      refine wpAny_pyNext_zipD2_end (S := ⟨D.TIz, D.TOz, D.TITO, D.TIi1, by simp, ?_, ?_, D.TIi2, by simp, ?_, ?_, ?_, ?_⟩) (drawsHot (A := X.A.in1) hh i1 a D.l1i1 (ap i1 (by simp)) us.toArray) (drawsHot (A := X.A.in1) hh i2 b D.l2i2 (ap i2 (by simp)) vs.toArray) oz oTI oTO ⟨⟨k1, px.isList⟩, er⟩ ⟨⟨k2, py.isList⟩, er⟩ (by simpa using hle.1) (by simpa using hle.2) (by simpa using heq) fun g tk nk => ⟨rfl, ?_⟩
      · simp only [List.mem_cons, List.not_mem_nil, or_false, not_or]; exact ⟨D.i1z.symm, D.l1z.symm, ap z (by simp)⟩
      · simp only [List.mem_cons, List.not_mem_nil, or_false, not_or]; exact ⟨D.TOi1, D.l1TO.symm, ap TO (by simp)⟩
      · simp only [List.mem_cons, List.not_mem_nil, or_false, not_or]; exact ⟨D.i2z.symm, D.l2z.symm, ap z (by simp)⟩
      · simp only [List.mem_cons, List.not_mem_nil, or_false, not_or]; exact ⟨D.TOi2, D.l2TO.symm, ap TO (by simp)⟩
      · simp only [List.mem_cons, List.not_mem_nil, or_false, not_or]; exact ⟨D.i12, D.l2i1.symm, ap i1 (by simp)⟩
      · simp only [List.mem_cons, List.not_mem_nil, or_false, not_or]; exact ⟨D.i12.symm, D.l1i2.symm, ap i2 (by simp)⟩
      · exact I.turnedL (t' := tk) (ch := [z, TI, TO, i1, i2]) (fun c o nb q => nk c o (fun q' => nb (by simp [q'])) (fun q' => nb (by simp [q'])) (fun q' => nb (by simp [q'])) (fun q' => nb (by simp [q'])) q) hf
    exact hmin ⟨by omega, by omega⟩ (by omega)
/-- an iterator has come, while an error is handled -/
def PIEQ (X : Cx) (pins : List (Addr × Obj)) (σ : L2.St) (tg : Expr) (R : It → Hp → Prop) (itv : Value) (s2 : Shared) : Prop :=
  ∃ (it : Addr) (fp : List Addr) (tn : Nat → Heap → Prop) (J : It) (H' : Hp), itv = .ref it ∧ Inv X pins σ H' s2 ∧ TurnQ X.prog X.w X.K tg J fp it tn ∧ tn 0 s2.heap ∧ (∀ b ∈ fp, FpOk X pins H' b) ∧ R J H'
structure PIQ (X : Cx) (tg iter : Expr) (wi : TI) : Prop where
  run : ∀ (pins : List (Addr × Obj)) (s : Shared) (σ : L2.St) (H : Hp) (R : It → Hp → Prop), Inv X pins σ H s → wi σ H R →
    wpAny (model X.prog X.w) X.A (eval iter X.env) (fun v s1 => wpAny (model X.prog X.w) X.A (pyIter v) (PIEQ X pins σ tg R) X.xe s1) X.xe s
def iZipQ (K : PySem.W.Frag) (ta : TA) : TI := fun σ H R => ta σ H fun vs H1 => ∃ a b xs ys, vs = [.ref a, .ref b] ∧ SqL K H1 a xs ∧ SqL K H1 b ys ∧ R (ItzQ K a b) H1
theorem pi_zipQ {X : Cx} {e e2 : Expr} {ta : TA} {p pos tpos : Pos} {elts : List Expr} {kk : Nat} (hg : Gl X "zip") (hm : X.mg "zip" = none) (ha : PA X [e, e2] ta)
    (hs : starEach [e, e2] X.env = (false, eval e X.env) :: starEach [e2] X.env := by rfl) (hpl : (backTo pos (starEach [e2] X.env)).any (·.1) = false := by rfl) :
    PIQ X (.Tuple elts kk tpos) (.Call (.Name "zip" p) [e, e2] [] pos) (iZipQ X.K ta) := by
  refine ⟨fun pins s σ H R I w0 => ?_⟩
  refine Call_ (ld_blt I hg hm PyProof.Rows.boot_zip (PyProof.Rows.callWith_type1 (thn (ha.run pos pins s σ H _ I w0) fun us t1 ⟨vs, H1, J1, rel, q1⟩ => ?_) hs hpl))
  obtain ⟨a, b, xs, ys, ev, lx, ly, q⟩ := q1
  subst ev
  cases rel with
  | cons rA rest =>
    cases rest with
    | cons rB rest =>
      cases rest
      cases rA
      cases rB
      obtain ⟨us, rx, px, _⟩ := J1.list lx
      obtain ⟨vs, ry, py, _⟩ := J1.list ly
      refine call_zip_2 px.isList py.isList fun g oz oTI oTO k1 k2 gsz gk => wpAny_pyIter_zip oz ?_
      refine ⟨_, [t1.heap.objs.size + 4, t1.heap.objs.size + 2, t1.heap.objs.size + 3, t1.heap.objs.size, t1.heap.objs.size + 1], _, _, H1, rfl, J1.kept (t' := t1.toks) gk, turnq_zip (PySem.W.ktu_apart t1.heap.objs.size a b px.lt py.lt), ⟨oz, oTI, ⟨_, _, oTO⟩, k1, k2⟩, fun c hc => ?_, q⟩
      have cc : c = t1.heap.objs.size + 4 ∨ c = t1.heap.objs.size + 2 ∨ c = t1.heap.objs.size + 3 ∨ c = t1.heap.objs.size ∨ c = t1.heap.objs.size + 1 := by simpa using hc
      have le : t1.heap.objs.size ≤ c := by
        rcases cc with z | z | z | z | z <;> rw [z] <;> first | exact Nat.le_add_right _ _ | exact Nat.le_refl _
      exact J1.fpOk le (J1.hok.fresh le)
/-- pins that hold may be added -/
theorem inv_pins {X : Cx} {σ : L2.St} {H : Hp} {s : Shared} {pl : List (Addr × Obj)} (I : Inv X [] σ H s) (h : ∀ p ∈ pl, s.heap.get? p.1 = some p.2 ∧ H p.1 = none ∧ p.1 ≠ X.env.locals ∧ p.1 ∉ X.fs ∧ ∀ v, p.2.data ≠ .cell v) : Inv X pl σ H s := I.pins_of h
/-- the block's context, the handled error pinned -/
abbrev blkQ (X : Cx) (s : Shared) (H : Hp) (scope : Scope) (cenv : Env) (fp : List Addr) : Cx := (X.blk s H scope cenv fp).tr X.pn (fun _ _ => False)
section
variable {X : Cx}
theorem lc_coreQ {pins : List (Addr × Obj)} {s : Shared} {σ : L2.St} {H : Hp} {Q : VK} {elt tg iter : Expr} {ifs : List Expr} {scope : Scope} {own : List (Str × Nat)} {pos pos' : Pos} {wi : TI} {g : TG} {tt : TT} {te : TE} {use : Option (Value → Sem Unit)} {Qf : Value → Shared → Prop}
    (hot : L2H.HotC X) (hN : X.N.Nodup) (I : Inv X pins σ H s) (hi : PIQ X tg iter wi) (ok : BlkOk X.N X.env.scope scope own)
    (hg : ∀ (s : Shared) (H : Hp) (C : Addr) (cl : List (Str × Addr)) (fp : List Addr), PG (blkQ X s H scope (compEnvC scope cl C X.env) fp) tg g) (ht : ∀ (s : Shared) (H : Hp) (C : Addr) (cl : List (Str × Addr)) (fp : List Addr), PTs (blkQ X s H scope (compEnvC scope cl C X.env) fp) ifs tt)
    (he : ∀ (s : Shared) (H : Hp) (C : Addr) (cl : List (Str × Addr)) (fp : List Addr), PE (blkQ X s H scope (compEnvC scope cl C X.env) fp) elt te) (hs : ∀ x, foldedSetIterable iter X.env x = pure x)
    (h : tLc wi g tt te (own.map (·.2)) σ H Q)
    (hRR : ∀ D C s' m H', Inv X pins σ H' s' → Q (.ref D) H' → s'.heap.Ns C m → FpOk X pins H' C → compPost (model X.prog X.w) X.A X.xe use Qf (.ref D) C (.ok .next) s') :
    wpAny (model X.prog X.w) X.A (comprehension (.ListComp elt [⟨tg, iter, ifs, 0⟩] scope pos) scope X.env pos' (newList []) false (eval iter X.env) use) Qf X.xe s := by
  have free : ∀ y ∈ scope.names, y.2 = .free → ∃ c, X.env.cells.lookup y.1 = some c := fun y hy e => (ok.free y hy e).elim (fun k => I.ok.has _ (.inl k)) fun k => I.ok.has _ (.inr k)
  refine wpAny_comprehension_free (use := use) rfl hs (closure_ok free) ok.kind (fun y hy e => by rw [ok.uniq y hy, e])
    (thn (hi.run pins s σ H _ I h) fun xv s1 hx => thn hx fun itv s2 h2 => ?_)
  obtain ⟨it, fp, tn, J, H2, ei, I2, T, st2, f2, q⟩ := h2
  subst ei
  refine wpAny_newObj_type (newEnv_comp ?_) (by show 0 ≤ sizeLine; decide)
  generalize hD : s2.heap.objs.size = D
  obtain ⟨W, ⟨m0, w0⟩, turn⟩ := q D (I2.hok.fresh (Nat.le_of_eq hD))
  generalize hs3 : ({ s2 with heap := s2.heap.push { cls := .type "list", data := .seq ([] : List Value).toArray } } : Shared) = s3
  have e3 : s3.heap = s2.heap.push { cls := .type "list", data := .seq ([] : List Value).toArray } := by rw [← hs3]
  have I3 : Inv X pins σ (upd H2 D (.lst [])) s3 := by
    rw [← hs3]
    refine I2.laid (t' := s2.toks) (fun b o e => Heap.get?_push_of_some _ e) (Nat.le_of_eq hD) ⟨Nat.zero_le _, [], 0, .nil, ?_⟩
    rw [← hD]
    exact Heap.get?_push_size _ rfl
  have f3 : ∀ b ∈ fp, FpOk X pins (upd H2 D (.lst [])) b ∧ b < s3.heap.objs.size := fun b hb => by
    obtain ⟨o, e, _⟩ := T.obj _ _ st2 b hb
    have lt := Heap.lt_size e
    refine ⟨⟨?_, (f2 b hb).2⟩, by rw [e3, Heap.size_push]; exact Nat.lt_succ_of_lt lt⟩
    rw [upd_ne (by rw [← hD]; exact Nat.ne_of_lt lt)]
    exact (f2 b hb).1
  have st3 : tn 0 s3.heap := T.keep _ _ _ st2 fun b _ o e => by rw [e3]; exact Heap.get?_push_of_some _ e
  have I4 := block_start I3 ok hN f3
  have pg := hg s3 (upd H2 D (.lst [])) s3.heap.objs.size (cellsFrom (s3.heap.objs.size + 1) scope.names (cloFrom X.env.cells scope.names [])) fp
  have pt := ht s3 (upd H2 D (.lst [])) s3.heap.objs.size (cellsFrom (s3.heap.objs.size + 1) scope.names (cloFrom X.env.cells scope.names [])) fp
  have pe := he s3 (upd H2 D (.lst [])) s3.heap.objs.size (cellsFrom (s3.heap.objs.size + 1) scope.names (cloFrom X.env.cells scope.names [])) fp
  show codeAny _ _ (.compStart (.ListComp elt [⟨tg, iter, ifs, 0⟩] scope pos) 0 (.ref it) (.ref D) (compEnvC scope (cellsFrom (s3.heap.objs.size + 1) scope.names (cloFrom X.env.cells scope.names [])) s3.heap.objs.size X.env)) (compPost (model X.prog X.w) X.A X.xe use Qf (.ref D) s3.heap.objs.size) { s3 with heap := pushCells (s3.heap.push { cls := .type "dict", data := .dict #[] }) scope.names }
  have nfp : ∀ b ∈ fp, (upd H2 D (.lst [])) b = none := fun b hb => (f3 b hb).1.1
  generalize hce : compEnvC scope (cellsFrom (s3.heap.objs.size + 1) scope.names (cloFrom X.env.cells scope.names [])) s3.heap.objs.size X.env = ce at I4 pg pt pe ⊢
  have cL : ce.locals = s3.heap.objs.size := by subst hce; rfl
  generalize hH3 : upd H2 D (.lst []) = H3 at I3 I4 pg pt pe w0 nfp f3
  have kp : ∀ b o, s3.heap.get? b = some o → (pushCells (s3.heap.push { cls := .type "dict", data := .dict #[] }) scope.names).get? b = some o := fun b o e => pushCells_keeps _ _ _ _ (Heap.get?_push_of_some _ e)
  -- the handled error's object is pinned in the block too
  have I4 : Inv (X.blk s3 H3 scope ce fp) X.pn (wipe σ (own.map (·.2))) H3 { s3 with heap := pushCells (s3.heap.push { cls := .type "dict", data := .dict #[] }) scope.names } := inv_pins I4 fun p hp => by
    have P := I3.pin p (List.mem_append_left _ hp)
    refine ⟨kp _ _ P.1, P.2.1, ?_, fun hm => ?_, P.2.2.2.2⟩
    · show p.1 ≠ ce.locals
      rw [cL]
      exact Nat.ne_of_lt (Heap.lt_size P.1)
    · exact (List.mem_cons.mp (I3.stkSub p.1 hm)).elim P.2.2.1 P.2.2.2.1
  have I4 : Inv (blkQ X s3 H3 scope ce fp) [] (wipe σ (own.map (·.2))) H3 { s3 with heap := pushCells (s3.heap.push { cls := .type "dict", data := .dict #[] }) scope.names } := I4.toTry (fun _ _ => False)
  generalize hs4 : ({ s3 with heap := pushCells (s3.heap.push { cls := .type "dict", data := .dict #[] }) scope.names } : Shared) = s4 at I4 ⊢
  have st4 : tn 0 s4.heap := T.keep _ _ _ st3 fun b _ o e => by rw [← hs4]; exact kp _ _ e
  have hotB : ∀ (s' : Shared) (H' : Hp), ∃ p, L2H.Hot1 (blkQ X s3 H3 scope ce fp).A p ∧ p ∈ (blkQ X s3 H3 scope ce fp).pn ++ [] := fun _ _ => let ⟨p, h1, h2⟩ := hot; ⟨p, h1, List.mem_append_left _ h2⟩
  have stat : ∀ {σ' : L2.St} {H' : Hp} {s' : Shared}, Inv (blkQ X s3 H3 scope ce fp) [] σ' H' s' → (∀ b ∈ fp, H' b = none) → ∀ b ∈ fp, FpOk (blkQ X s3 H3 scope ce fp) [] H' b := fun {σ' H' s'} I' hn b hb =>
    ⟨hn b hb, (I'.ok.exf b hb).1, I'.ok.exfs b hb, .inl hb, fun x c e => (I'.ok.exf b hb).2 x c e, fun p hp => (f3 b hb).1.2.2.2.2.2 p (List.mem_append_left _ (by simpa using (show p ∈ X.pn ++ ([] : List (Addr × Obj)) from hp)))⟩
  have loop : codeAny (model X.prog X.w) X.A (.compLoop (.ListComp elt [⟨tg, iter, ifs, 0⟩] scope pos) 0 (.ref it) (.ref D) ce) (compPost (model X.prog X.w) X.A X.xe use Qf (.ref D) s3.heap.objs.size) s4 := by
    refine compLoop_any (fun n s' => ∃ i H', Inv (blkQ X s3 H3 scope ce fp) [] (wipe σ (own.map (·.2))) H' s' ∧ tn i s'.heap ∧ (∀ b ∈ fp, H' b = none) ∧ W i n H') ?_ m0 ⟨0, H3, I4, st4, nfp, w0⟩
    rintro n s5 ⟨i, H5, I5, st5, n5, w5⟩
    rcases turn i n H5 w5 with ⟨stop, qq⟩ | ⟨go, Nx, hNx, step⟩
    · refine thnF (T.done (blkQ X s3 H3 scope ce fp) rfl rfl rfl i [] s5 _ H5 (fun _ _ => False) (hotB s5 H5) I5 (stat I5 n5) st5 stop) fun r s6 ⟨hr, I6⟩ => ?_
      subst hr
      have I7 : Inv X pins σ H5 s6 := I3.call' (ch := fp) I6.os I6.base I6.hok I6.bare fun b hb => ⟨(f3 b hb).1.2.2.2.1, (f3 b hb).1.2.1, (f3 b hb).1.2.2.2.2.1, (f3 b hb).1.2.2.2.2.2⟩
      have nC : H5 s3.heap.objs.size = none := cL ▸ (show H5 ce.locals = none from I6.free)
      obtain ⟨m, hn, _⟩ := I6.loc
      have hn : s6.heap.Ns ce.locals m := hn
      rw [cL] at hn
      exact hRR D s3.heap.objs.size s6 m H5 I7 qq hn (I3.fpOk (Nat.le_refl _) nC)
    · refine thnF (T.item (blkQ X s3 H3 scope ce fp) rfl rfl rfl i [] s5 _ H5 (fun _ _ => False) (hotB s5 H5) I5 (stat I5 n5) st5 go) fun r s6 ⟨u, hr, h6⟩ => ?_
      subst hr
      refine thnF h6 fun _ s7 ⟨x, H7, I7, r7, y7, st7, n7⟩ => ?_
      have P7 := I7.pinned (stat I7 n7) (T.obj _ _ st7)
      refine thnF (pg.run _ s7 _ H7 x u _ P7 r7 (step x H7 y7)) fun _ s8 ⟨σ8, H8, I8, hw8, q8⟩ => ?_
      refine thnF (pt.run _ s8 σ8 H8 _ I8 q8) fun b s9 ⟨H9, I9, q9⟩ => ?_
      have fin : ∀ {s' : Shared} {H' : Hp}, Inv (blkQ X s3 H3 scope ce fp) ([] ++ pinsAt fp s7.heap) σ8 H' s' → Nx H' → ∃ m, m < n ∧ ∃ i H', Inv (blkQ X s3 H3 scope ce fp) [] (wipe σ (own.map (·.2))) H' s' ∧ tn i s'.heap ∧ (∀ b ∈ fp, H' b = none) ∧ W i m H' := fun {s' H'} I' nx => by
        obtain ⟨m', hm, w'⟩ := hNx H' nx
        have pin' : ∀ b ∈ fp, ∀ o, s7.heap.get? b = some o → s'.heap.get? b = some o ∧ H' b = none := fun b hb o e =>
          let z := I'.pin (b, o) (List.mem_append_right _ (List.mem_append_right _ (mem_pinsAt hb e)))
          ⟨z.1, z.2.1⟩
        have hl : (wipe σ (own.map (·.2))).length = σ8.length := by rw [← hw8, wipe_length]
        refine ⟨m', hm, i + 1, H', (I'.unpinned (pins := [])).weak hl (fun j v e => ?_), T.keep _ _ _ st7 fun b hb o e => (pin' b hb o e).1, fun b hb => ?_, w'⟩
        · rw [← hw8] at e
          exact (wipe_some e).1
        · obtain ⟨o, e, _⟩ := T.obj _ _ st7 b hb
          exact (pin' b hb o e).2
      cases b with
      | false =>
        simp only [Bool.false_eq_true, if_false] at q9 ⊢
        exact fin I9 q9
      | true =>
        simp only [if_true] at q9 ⊢
        refine thnF (pe.run _ s9 σ8 H9 _ I9 q9) fun z s10 ⟨yv, H10, I10, r10, acc, hD10, hz10, nx⟩ => ?_
        exact app_ok (X := blkQ X s3 H3 scope ce fp) I10 hD10 hz10 r10 fun s11 I11 => fin I11 nx
  exact codeAny_compStart_list loop (T.self X.A 0 _ _ _ st4 loop)
theorem pe_lcQ {elt tg iter : Expr} {ifs : List Expr} {scope : Scope} {own : List (Str × Nat)} {pos : Pos} {wi : TI} {g : TG} {tt : TT} {te : TE} (hot : L2H.HotC X) (hN : X.N.Nodup) (hi : PIQ X tg iter wi) (ok : BlkOk X.N X.env.scope scope own)
    (hg : ∀ (s : Shared) (H : Hp) (C : Addr) (cl : List (Str × Addr)) (fp : List Addr), PG (blkQ X s H scope (compEnvC scope cl C X.env) fp) tg g) (ht : ∀ (s : Shared) (H : Hp) (C : Addr) (cl : List (Str × Addr)) (fp : List Addr), PTs (blkQ X s H scope (compEnvC scope cl C X.env) fp) ifs tt)
    (he : ∀ (s : Shared) (H : Hp) (C : Addr) (cl : List (Str × Addr)) (fp : List Addr), PE (blkQ X s H scope (compEnvC scope cl C X.env) fp) elt te) (hs : ∀ x, foldedSetIterable iter X.env x = pure x := by intro _; rfl) :
    PE X (.ListComp elt [⟨tg, iter, ifs, 0⟩] scope pos) (tLc wi g tt te (own.map (·.2))) := by
  refine ⟨fun pins s σ H Q I h => ?_⟩
  rw [eval_ListComp]
  refine lc_coreQ hot hN I hi ok hg ht he hs h fun D C s' m H' I' q hn ⟨f0, f1, f2, f3, f4, f5⟩ => ⟨m, hn, fun g1 sb => ?_⟩
  exact ⟨.ref D, H', I'.turned (t' := s'.toks) (fun b o hb e => (sb.2 b hb).trans e) f0 f1 f3 f4 f5, rfl, q⟩
end
end DL
/-! while an error is handled: a tuple unpacked -/
namespace DL
open PySem PySem.Spec PyProof.Rows L2 HotX
section
variable {prog : Program} {w : World} {A : Around} {E : Value → Shared → Prop} {s : Shared}
theorem tuple_end_hot {it t x1 : Addr} {i : Nat} {items : Array Value} {Q : Option Value → Shared → Prop} (hh : A.handled = some (.ref x1)) (he : ErrAt x1 s.heap) (nx : it ≠ x1) (hit : s.heap.IsTupleIter it t i) (ht : s.heap.IsTuple t items) (hx : items[i]? = none)
    (hQ : ∀ h', Heap.ExtBut it s.heap h' → Q none { s with heap := h' }) : wpAny (model prog w) A (pyNext (.ref it)) Q E s := by
  obtain ⟨o1, vs1, g1, d1, c1⟩ := he
  obtain ⟨ob, gob, cob, dob⟩ := id hit
  obtain ⟨ol, gol, _, nl, dol⟩ := ht
  unfold pyNext
  refine wpAny_bind (wpAny_attempt (wpAny_callSpecial?_slot (name := Str.ofString "__next__") hit.typeIs F.slot_tuple_iterator_next
    (wpAny_call_entry F.slot_tuple_iterator_next hit.typeIs F.entry_tuple_iterator_next ?_ (F.args_tuple_iterator_next_1 _))))
  show wpAny _ _ (field (.ref it) 0 >>= _) _ _ s
  refine wpAny_bind (wpAny_field gob dob (x := .ref t) rfl ?_)
  show wpAny _ _ (if (Value.ref t == Value.none) = true then _ else _) _ _ s
  rw [if_neg (show ¬ ((Value.ref t == Value.none) = true) from Bool.false_ne_true)]
  show wpAny _ _ (field (.ref it) 1 >>= _) _ _ s
  refine wpAny_bind (wpAny_field gob dob (x := .int i 0) rfl ?_)
  show wpAny _ _ (seqItems? (.ref t) >>= _) _ _ s
  refine wpAny_bind (wpAny_seqItems gol dol ?_)
  simp only [Int.toNat_natCast, hx]
  refine wpAny_bind (wpAny_rule (wpAny_bind (wpAny_setField gob dob (by simp) ?_)))
  show wpAny _ _ (newExc (.type "StopIteration") [] >>= _) _ _ _
  refine wpAny_bind ?_
  simp only [newExc, newTuple]
  refine wpAny_bind (wpAny_newObj_type ?_ (by size_fits))
  refine wpAny_bind (m := firstArgMember _ _) (wpAny_of_eq (a := Value.none) (by first | rfl | (simp only [firstArgMember]; rfl)) ?_)
  refine wpAny_newObj_type ?_ (by size_fits)
  generalize hh1 : s.heap.update it (Obj.mapFields (·.setIfInBounds 0 Value.none)) = h1
  have e1 : h1.get? x1 = some o1 := by rw [← hh1, Heap.get?_update_other _ _ nx]; exact g1
  have x1b : Heap.ExtBut it s.heap h1 := by rw [← hh1]; exact (Heap.SameBut.update ..).extBut
  refine raiseNew_hot (x1 := x1) ⟨hh, o1, vs1, Heap.get?_push_of_some _ (Heap.get?_push_of_some _ e1), d1, c1⟩ (Nat.ne_of_lt (Heap.lt_size (Heap.get?_push_of_some _ e1))) (Heap.get?_push_size _ rfl) rfl (by first | (simp; done) | (simp; omega) | (simp only [Array.size_append]; simp; omega)) ?_
  refine wpAny_bind (wpAny_isInstance (T := "StopIteration") (b := true) ⟨_, Heap.get?_update_self _ (Heap.get?_push_size _ rfl) rfl, rfl⟩ isSubtype_stop ?_)
  refine wpAny_pure (hQ _ (fun b o nb e => ?_))
  have eb := x1b b o nb e
  rw [Heap.get?_update_other _ _ (Nat.ne_of_gt (Heap.lt_size (Heap.get?_push_of_some _ eb)))]
  exact Heap.get?_push_of_some _ (Heap.get?_push_of_some _ eb)
theorem unpack_hot {t x1 : Addr} {items : Array Value} {targets : List (Bool × (Value → Sem Unit))} {Q : Unit → Shared → Prop} (hh : A.handled = some (.ref x1)) (he : ErrAt x1 s.heap) (ht : s.heap.IsTuple t items)
    (hn : targets.length = items.size) (hstar : targets.findIdx? (·.1) = none)
    (h : ∀ h', Heap.ExtBut s.heap.objs.size s.heap h' → wpAny (model prog w) A (assignInOrder (targets.map (·.2)) items.toList) Q E { s with heap := h' }) :
    wpAny (model prog w) A (unpack (.ref t) targets) Q E s := by
  unfold unpack
  rw [hn, hstar]
  have lt : t ≠ s.heap.objs.size := by obtain ⟨o, ho, _⟩ := ht; exact Nat.ne_of_lt (Heap.lt_size ho)
  have nx : s.heap.objs.size ≠ x1 := by obtain ⟨o, _, ho, _⟩ := he; exact Nat.ne_of_gt (Heap.lt_size ho)
  refine wpAny_bind (wpAny_holding ?_)
  unfold unpackItems
  refine wpAny_bind ?_
  unfold notIterableAtAll
  refine wpAny_bind (wpAny_specialOf ht.typeIs F.slot_tuple_iter.lookup ?_)
  refine wpAny_pure ?_
  simp only [Bool.false_eq_true, if_false]
  refine wpAny_bind (wpAny_holding (wpAny_pyIter_tuple ht ?_))
  refine wpAny_bind (wpAny_holding (wpAny_draw_tuple lt items.size 0 _ _ ⟨_, Heap.get?_push_size _ rfl, rfl, rfl⟩ (ht.push _) (by omega) fun g1 it1 sb => ?_))
  have all : List.take items.size (List.drop 0 items.toList) = items.toList := by
    rw [List.drop_zero]; exact List.take_of_length_le (by simp)
  rw [all, if_neg (by simp)]
  have t1 : g1.IsTuple t items := (ht.push _).extBut sb.extBut lt
  obtain ⟨o1, vs1, y1, y2, y3⟩ := he
  have e1 : ErrAt x1 g1 := ⟨o1, vs1, sb.extBut x1 o1 (Ne.symm nx) (Heap.get?_push_of_some _ y1), y2, y3⟩
  refine wpAny_bind (wpAny_holding (tuple_end_hot hh e1 nx it1 t1 (by simp) fun g2 eb => ?_))
  simp only [Option.isSome_none, Bool.false_eq_true, if_false]
  exact wpAny_pure (h g2 fun b o hb e => eb b o hb (sb.extBut b o hb (Heap.get?_push_of_some _ e)))
end
theorem pg_tupQ {X : Cx} {es : List Expr} {k : Nat} {t : TGs} {n : Nat} {pos : Pos} (hot : L2H.HotC X) (h : PGs X es t) (hn : (assignEach es X.env).length = n := by rfl) (hst : (assignEach es X.env).findIdx? (·.1) = none := by rfl) : PG X (.Tuple es k pos) (gTup X.K n t) := by
  refine ⟨fun pins s σ H v u Q I r hw => ?_⟩
  obtain ⟨a, xs, e1, hq, hl, hw⟩ := hw
  subst e1
  cases r
  obtain ⟨p, ⟨hh, ws, dp, cp⟩, hp⟩ := hot
  obtain ⟨us, rv, ht, hz⟩ := I.tuple hq
  rw [arm_assign_Tuple]
  refine wpAny_bind (wpAny_standAt (unpack_hot (items := us.toArray) hh ⟨p.2, ws, (I.pin p (List.mem_append_left _ hp)).1, dp, cp⟩ ht (by simp [hn, ← hl, rv.length]) hst fun g hx => ?_))
  have J : Inv X pins σ H { s with heap := g } := I.kept (t' := s.toks) fun b o e => hx b o (Nat.ne_of_lt (Heap.lt_size e)) e
  exact h.run pins _ σ H xs _ Q J (by simpa using rv) hw
end DL
/-! the handled error, handed to a def -/
namespace DL
open PySem PySem.Spec PyProof.Rows L2 HotX
/-- isinstance(e, c), e the handled error -/
theorem call_isP {X : Cx} {Da : Addr} {p : Addr × Obj} (C : ExcC X.K Da) (hp : p ∈ X.pn) (hz : Zc (.ref Da) none p.2) (hf : ∃ vs, p.2.data = .fields vs) : CallR X (.builtin "isinstance") (rIsE X.K Da p.1) := by
  intro pins s σ H xs us Q I r h
  obtain ⟨c, cv, b, rfl, hcv, e, q⟩ := h
  cases r with
  | cons rx rr =>
    cases rr with
    | cons rt rr =>
      cases rr
      cases rx
      cases hcv _ rt
      have hget := (I.pin p (List.mem_append.mpr (.inl hp))).1
      obtain ⟨vs, hv⟩ := hf
      obtain ⟨a, oc, od, oda, osl⟩ := p
      have J : PySem.W.InstAt s.heap a ⟨oc, od, oda, osl⟩ Da none := by
        obtain ⟨z1, z2⟩ := hz
        dsimp only at z1 z2 hv
        subst z1 z2 hv
        exact ⟨hget, rfl, rfl, trivial⟩
      exact PySem.W.kia_one (PySem.W.handS_kitx_exc C.hg C.hk C.hs C.hd C.ha C.hn C.ht C.hm) I.kIn J e (fun z => nomatch z) fun tk => ⟨.bl b, H, I.kept (t' := tk) fun _ _ z => z, rfl, q⟩
/-- a def of one parameter, called within an except suite with the handled error -/
abbrev SpK := Addr → Value → Option Addr → Hp → VK → Prop
structure FnK (P : Program) (w : World) (K : PySem.W.Frag) (mg : Str → Option Value) (base : Heap) (CX : CXT) (k : Nat) (f : Addr) (fd : FuncData) (y : Str) (sp : SpK) : Prop where
  run : ∀ (A : Around) (outer : List Env) (s : Shared) (H : Hp) (args : Args) (Q : VK) (p : Addr × Obj) (cls : Value) (d : Option Addr), L2H.RoomH k A → L2H.Hot1 A p → L2H.PinOk outer H s p → Zc cls d p.2 → Env0 P w K mg base A outer s H → BindsTo s fd args [(y, .ref p.1)] → sp p.1 cls d H Q →
    codeAny (model P w) A (.call (.ref f) args) (CR CX outer P w H s Q fun _ _ _ => False) s
theorem fnK_of {CX : CXT} {P : Program} {w : World} {K : PySem.W.Frag} {mg : Str → Option Value} {base : Heap} {k : Nat} {x : Str} {st : Stmt} {f : Addr} {fd : FuncData} {N : List Str} {y : Str} {sp : SpK} (F : Fun K x x st f fd) (Sc : FnScope N [y] (defScope st))
    (hb : ∀ (cdv : Value) (A : Around) (outer : List Env) (s : Shared) (H : Hp) (Q : VK) (p : Addr × Obj) (cls : Value) (d : Option Addr), L2H.Hot1 A p → Zc cls d p.2 → L2H.RoomH k (A.deeper (envOfC x (defScope st) s.heap.objs.size f cdv)) → sp p.1 cls d H Q →
      ∃ t, PSs (L2H.cxH CX P w K mg base N x (defScope st) f cdv A outer s H (fun _ _ _ => False) p) (defBody st) t ∧ t { nx := fun _ H' => Q .non H', rt := Q } (L2.start N [.ref p.1]) H) :
    FnK P w K mg base CX (k + 1) f fd y sp := by
  obtain ⟨oc, od, kV, doc, pm, an, cdv, ct, osl, rfl, lk, hcd⟩ := F.ex
  refine ⟨fun A outer s H args Q p cls d hr hot hpin hz e0 hbd hsp => ?_⟩
  have KX : K.In s.heap := e0.mod.kin.keeps fun b o e => (e0.bs b o e).1
  have lim : s.heap.NoLimit := e0.mod.nolimit.keeps fun b o e => (e0.bs b o e).1
  have hkind : ∀ z ∈ [(y, Value.ref p.1)], (defScope st).names.lookup z.1 = some .local ∨ ((defScope st).names.lookup z.1 = some .cell ∧ ((cellsFrom (s.heap.objs.size + 1) (defScope st).names []).lookup z.1).isSome = true) := fun z hz => by
    have e : z = (y, .ref p.1) := by simpa using hz
    subst e
    rcases Sc.par y (by simp) with q | q
    · exact .inl q
    · exact .inr ⟨q, PySem.W.cellsFrom_some _ _ _ (.inl q)⟩
  refine codeAny_call_function hr.depth (KX _ _ lk) rfl Sc.co Sc.gen rfl (PySem.W.codeRec_of KX hcd) (hbd _ _ _ _ ?_)
  refine wpAny_newFunctionEnv_cells Sc.kind hkind fun env he s1 x1 => ?_
  subst he
  refine ⟨lim.keeps x1.toInCall.keep, codeAny_func ?_⟩
  obtain ⟨t, ht, hq⟩ := hb cdv A outer s H Q p cls d hot hz (hr.deeper _) hsp
  have I : Inv (L2H.cxH CX P w K mg base N x (defScope st) f cdv A outer s H (fun _ _ _ => False) p) [] (L2.start N [.ref p.1]) H s1 := L2H.inv_startH (ps := [y]) (us := [.ref p.1]) Sc hpin e0 rfl (.cons rfl .nil) x1
  refine wpAny_mono (ht.run [] s1 _ H _ I hq) (fun fl s' hs => ?_) fun e s' hs => hs
  have fin : ∀ {σ' : L2.St} {H' : Hp} {v : V} {u : Value}, Inv (L2H.cxH CX P w K mg base N x (defScope st) f cdv A outer s H (fun _ _ _ => False) p) [] σ' H' s' → RelV v u → Q v H' → CE outer P w H s Q u s' :=
    fun {σ' H' v u} J rv q => ⟨v, H', J.os, J.bare, J.base, J.hok, rv, q⟩
  cases fl with
  | ret u =>
    obtain ⟨v, σ', H', J, rv, q⟩ := hs
    exact fin J rv q
  | next =>
    obtain ⟨σ', H', J, q⟩ := hs
    exact fin (v := V.non) (u := Value.none) J rfl q
  | brk =>
    obtain ⟨_, _, _, q⟩ := hs
    exact False.elim q
  | cont =>
    obtain ⟨_, _, _, q⟩ := hs
    exact False.elim q
/-- x(e), e the handled error's name -/
def tKind (i : Nat) (p : Addr) (cls : Value) (d : Option Addr) (sp : SpK) : TE := fun σ H Q => σ[i]? = some (some (.ref p)) ∧ sp p cls d H Q
theorem pe_kind {X : Cx} {CX : CXT} {k : Nat} {f : Addr} {fd : FuncData} {y : Str} {sp : SpK} {x v : Str} {i : Nat} {p : Addr × Obj} {cls : Value} {d : Option Addr} {q pv pos : Pos} (F : FnK X.prog X.w X.K X.mg X.base CX k f fd y sp) (hr : L2H.RoomH k X.A)
    (hot : L2H.Hot1 X.A p) (hp : p ∈ X.pn) (hz : Zc cls d p.2) (hg : Gl X x) (hm : X.mg x = some (.ref f)) (hk : PySem.W.keepIn X.K (.ref f) = true) (hb : Binds X.K fd [y] []) (hx : ∀ σ, PassesAt CX X σ (fun _ _ _ => False))
    (hN : X.N[i]? = some v) (hv : Vis X.env.scope v) (hd : (v == ("__debug__" : Str)) = false := by decide) (hcd : (v == ("__classdict__" : Str)) = false := by decide) (hdb : (x == ("__debug__" : Str)) = false := by decide)
    (he : starEach [.Name v pv] X.env = (false, eval (.Name v pv) X.env) :: starEach [] X.env := by rfl) (hpl : (backTo pos (starEach [] X.env)).any (·.1) = false := by rfl) :
    PE X (.Call (.Name x q) [.Name v pv] [] pos) (tKind i p.1 cls d sp) := by
  refine ⟨fun pins s σ H Q I h => ?_⟩
  obtain ⟨h1, h2⟩ := h
  refine wpAny_Call_Name_kw (ld_glob I hg hm ?_ hdb)
  refine PySem.W.callWith_K (h₀ := X.base) I.ok.mod.kin hk (thn ((pa_cons (pe_var (i := i) hN hv hd hcd) pa_nil he).run pos pins s σ H (fun vs H1 => vs = [V.ref p.1] ∧ H1 = H) I ⟨_, h1, rfl, rfl⟩) fun us s1 ⟨vs, H1, I1, r, e1, e2⟩ => ⟨I1.kIn, ?_⟩) he hpl
  subst e1 e2
  cases r with
  | cons r1 rr =>
    cases rr
    cases r1
    have b := hb s1 [.ref p.1] I1.kIn rfl
    have P1 := I1.pin p (List.mem_append_left _ hp)
    have hpin : L2H.PinOk X.stack H1 s1 p := ⟨P1.1, P1.2.1, fun hm => (List.mem_cons.mp (I1.stkSub p.1 hm)).elim P1.2.2.1 P1.2.2.2.1, P1.2.2.2.2⟩
    refine wpAny_call (codeAny_mono (F.run X.A X.stack s1 H1 ⟨[.ref p.1], []⟩ Q p cls d hr hot hpin hz I1.env0 b h2) fun r s' hq => ?_)
    cases r with
    | error e => exact hx σ pins H1 s1 e s' I1 hq
    | ok fl =>
      cases fl with
      | ret u => exact I1.after hq
      | next => exact False.elim hq
      | brk => exact False.elim hq
      | cont => exact False.elim hq
end DL
/-! _law_kind's readings -/
namespace DL
open PySem PySem.Spec PyProof.Rows L2 HotX
def Ext (H H' : Hp) : Prop := ∀ b o, H b = some o → H' b = some o
theorem Ext.refl (H : Hp) : Ext H H := fun _ _ h => h
theorem Ext.trans {H H1 H2 : Hp} (a : Ext H H1) (b : Ext H1 H2) : Ext H H2 := fun p o h => b p o (a p o h)
theorem Ext.new {H : Hp} {p : Addr} {o : HO} (h : H p = none) : Ext H (upd H p o) := fun a u e => by
  rw [upd_ne (ne_of_none e h)]; exact e
theorem Ext.none {H H' : Hp} (x : Ext H H') {p : Addr} (h : H' p = none) : H p = none := by
  cases e : H p with
  | none => rfl
  | some o => rw [x p o e] at h; cases h
theorem Ext.sql {K : PySem.W.Frag} {H H' : Hp} (x : Ext H H') {a : Addr} {xs : List V} (h : SqL K H a xs) : SqL K H' a xs := (G.of x).l h
theorem szK {n : Nat} (h : Nat.ble n 100 = true) : n ≤ sizeLine := Nat.le_trans (Nat.le_of_ble_eq_true h) (by decide)
def pick (ws : List Str) (bs : List Bool) : List Str := ((ws.zip bs).filter (·.2)).map (·.1)
theorem pick_take {ws : List Str} {bs : List Bool} {i : Nat} {x : Str} {b : Bool} (h1 : ws[i]? = some x) (h2 : bs[i]? = some b) : pick (ws.take (i + 1)) (bs.take (i + 1)) = pick (ws.take i) (bs.take i) ++ (if b then [x] else []) := by
  unfold pick
  have e : (ws.take (i + 1)).zip (bs.take (i + 1)) = (ws.take i).zip (bs.take i) ++ [(x, b)] := by
    rw [List.take_add_one, List.take_add_one, h1, h2]
    have l1 := (List.getElem?_eq_some_iff.mp h1).1
    have l2 := (List.getElem?_eq_some_iff.mp h2).1
    rw [List.zip_append (by simp; omega)]
    rfl
  rw [e, List.filter_append, List.map_append]
  cases b <;> rfl
theorem pick_len {ws : List Str} {bs : List Bool} : (pick ws bs).length ≤ ws.length := by
  unfold pick
  rw [List.length_map]
  exact Nat.le_trans (List.length_filter_le ..) (by rw [List.length_zip]; exact Nat.min_le_left ..)
theorem pick_sum : ∀ (ws : List Str) (bs : List Bool), ((pick ws bs).map (·.length)).sum ≤ (ws.map (·.length)).sum
  | [], _ => by simp [pick]
  | _ :: _, [] => by simp [pick]
  | w :: ws, b :: bs => by
    have ih := pick_sum ws bs
    cases b with
    | false =>
      have e : pick (w :: ws) (false :: bs) = pick ws bs := by simp [pick]
      rw [e, List.map_cons, List.sum_cons]
      omega
    | true =>
      have e : pick (w :: ws) (true :: bs) = w :: pick ws bs := by simp [pick]
      rw [e, List.map_cons, List.map_cons, List.sum_cons, List.sum_cons]
      omega
theorem lc_kind {K : PySem.W.Frag} {ws : List Str} {bs : List Bool} {ta : TA} {σ : L2.St} {H H0 : Hp} {Q : VK} (hl : ws.length = bs.length) (hz : ws.length < 1000) (hs : 4 < σ.length)
    (hta : ∀ R : List V → Hp → Prop, (∀ a b H1, Ext H0 H1 → SqL K H1 a (ws.map V.str) → SqL K H1 b (bs.map V.bl) → R [.ref a, .ref b] H1) → ta σ H R)
    (hq : ∀ D H2, Ext H0 H2 → H2 D = some (.lst ((pick ws bs).map V.str)) → Q (.ref D) H2) :
    tLc (iZipQ K ta) (gTup K 2 (gCons (gName 3) (gCons (gName 4) gNil))) (tB (tVar 4)) (tVar 3) [3, 4] σ H Q := by
  refine hta _ fun a b H1 x0 ha hb => ⟨a, b, _, _, rfl, ha, hb, fun D hD => ?_⟩
  refine ⟨fun i m H' => m + i = ws.length ∧ Ext H1 H' ∧ H' D = some (.lst ((pick (ws.take i) (bs.take i)).map V.str)), ⟨ws.length, by omega, Ext.new hD, upd_same⟩, ?_⟩
  rintro i m H' ⟨hm, x, hd⟩
  by_cases hi : i < ws.length
  · right
    obtain ⟨w, hw⟩ : ∃ w, ws[i]? = some w := ⟨_, List.getElem?_eq_getElem hi⟩
    obtain ⟨c, hc⟩ : ∃ c, bs[i]? = some c := ⟨_, List.getElem?_eq_getElem (hl ▸ hi)⟩
    have hA := x.sql ha
    have hB := x.sql hb
    refine ⟨⟨_, _, .str w, .bl c, hA, hB, by rw [List.getElem?_map, hw]; rfl, by rw [List.getElem?_map, hc]; rfl⟩, fun H3 => Ext H1 H3 ∧ H3 D = some (.lst ((pick (ws.take (i + 1)) (bs.take (i + 1))).map V.str)), fun H3 ⟨x3, d3⟩ => ⟨m - 1, by omega, by omega, x3, d3⟩, ?_⟩
    rintro y H3 ⟨T, u, v, rfl, hT, rfl, fu, fv⟩
    have eu := fu _ hA
    have ev := fv _ hB
    rw [List.getElem?_map, hw] at eu
    rw [List.getElem?_map, hc] at ev
    cases Option.some.inj eu
    cases Option.some.inj ev
    have xT : Ext H' (upd H' T (.tup [.str w, .bl c])) := Ext.new hT
    refine ⟨T, [.str w, .bl c], rfl, SqT.of upd_same, rfl, _, _, rfl, _, _, rfl, rfl, ?_, .bl c, ?_, c, rfl, ?_⟩
    · refine Eq.trans (wipe_eq (by simp only [List.length_set]) fun j hj => ?_) wipe_wipe
      simp only [List.mem_cons, List.not_mem_nil, or_false, not_or] at hj
      rw [List.getElem?_set_ne (Ne.symm hj.2), List.getElem?_set_ne (Ne.symm hj.1)]
    · exact List.getElem?_set_self (by simp only [List.length_set, wipe_length]; exact hs)
    · have hp := pick_take hw hc
      cases c with
      | false =>
        simp only [Bool.false_eq_true, if_false]
        refine ⟨x.trans xT, ?_⟩
        rw [hp]
        simpa using xT _ _ hd
      | true =>
        simp only [if_true]
        refine ⟨.str w, ?_, _, xT _ _ hd, ?_, fun p o h => ?_, ?_⟩
        · rw [List.getElem?_set_ne (by decide)]
          exact List.getElem?_set_self (by simp only [wipe_length]; omega)
        · rw [List.length_map]
          refine Nat.lt_of_le_of_lt pick_len ?_
          rw [List.length_take]
          exact Nat.lt_of_le_of_lt (Nat.min_le_right ..) (Nat.lt_trans hz (by decide))
        · rw [upd_ne (fun e => by rw [e, hD] at h; cases h)]
          exact xT _ _ (x _ _ h)
        · rw [upd_same, hp]
          simp
  · left
    refine ⟨⟨_, _, x.sql ha, x.sql hb, by simp; omega, by simp; omega, .inl (by simp; omega)⟩, hq D H' (x0.trans x) ?_⟩
    rw [hd, List.take_of_length_le (by omega), List.take_of_length_le (by omega)]
end DL
/-! words for _law_kind -/
namespace DL
open PySem PySem.Spec PyProof.Rows L2 HotX
theorem hotB {X : Cx} {s : Shared} {H : Hp} {scope : Scope} {cenv : Env} {fp : List Addr} (h : L2H.HotC X) : L2H.HotC (blkQ X s H scope cenv fp) := let ⟨p, h1, h2⟩ := h; ⟨p, h1, h2⟩
def tIs (p : Addr) (b : Bool) : TE := fun σ H Q => σ[0]? = some (some (.ref p)) ∧ Q (.bl b) H
/-- isinstance(e, X) of the handled error -/
theorem pe_isK {X : Cx} {Da : Addr} {p : Addr × Obj} {a : Addr} {b : Bool} {x v : Str} {q pe pc pos : Pos} (C : ExcC X.K Da) (hp : p ∈ X.pn) (hz : Zc (.ref Da) none p.2) (hf : ∃ vs, p.2.data = .fields vs) (hi : X.mg "isinstance" = none) (hm : X.mg x = some (.ref a)) (hb : PySem.W.kitOne X.K (.ref Da) (.ref a) = some b)
    (hN : X.N[0]? = some v := by rfl) (hv : Vis X.env.scope v := by first | exact Or.inl rfl | exact Or.inr (Or.inl rfl) | exact Or.inr (Or.inr rfl)) (hd : (v == ("__debug__" : Str)) = false := by decide) (hcd : (v == ("__classdict__" : Str)) = false := by decide)
    (hg : Gl X "isinstance" := by exact rfl) (hgx : Gl X x := by exact rfl) (hdx : (x == ("__debug__" : Str)) = false := by decide)
    (he : starEach [.Name v pe, .Name x pc] X.env = (false, eval (.Name v pe) X.env) :: starEach [.Name x pc] X.env := by rfl) (he2 : starEach [.Name x pc] X.env = (false, eval (.Name x pc) X.env) :: starEach [] X.env := by rfl) (hpl : (backTo pos (starEach [.Name x pc] X.env)).any (·.1) = false := by rfl) :
    PE X (.Call (.Name "isinstance" q) [.Name v pe, .Name x pc] [] pos) (tIs p.1 b) := by
  refine ⟨fun pins s σ H Q I h => ?_⟩
  refine (pe_callB (call_isP C hp hz hf) hg hi (by decide +kernel) (pa_cons (pe_var (i := 0) hN hv hd hcd) (pa_cons (pe_glob (v := .ref a) hgx hm rfl hdx) pa_nil he2) he) (he := he) (hpl := hpl)).run pins s σ H Q I ?_
  exact ⟨_, h.1, .ref a, .ref a, b, rfl, fun u r => r, hb, h.2⟩
end DL
/-! several except clauses, each with a name -/
namespace DL
open PySem PySem.Spec PyProof.Rows L2 HotX
abbrev TSu := Addr → Value → Option Addr → TS
/-- the ends of a suite whose name (slot i) is unbound behind it -/
def offE (i : Nat) (D : Ends) : Ends where
  nx := fun σ H => D.nx (σ.set i none) H
  rt := D.rt
  bk := fun σ H => D.bk (σ.set i none) H
  ct := fun σ H => D.ct (σ.set i none) H
def wManyA (K : PySem.W.Frag) (i : Nat) (Wout : WX) (D : Ends) : List (Value × TSu) → WX
  | [] => Wout
  | (c, ts) :: r => fun cls d σ H => ∃ b, PySem.W.exmOne K cls c = some b ∧ (b = true → ∀ a, H a = none → ts a cls d (offE i D) (σ.set i (some (.ref a))) H) ∧ (b = false → wManyA K i Wout D r cls d σ H)
inductive HdsA (X : Cx) (n : Str) : List ExceptHandler → List (Value × TSu) → Prop
  | nil : HdsA X n [] []
  | cons {x : Str} {c : Value} {ts : TSu} {b₀ : Stmt} {suite : List Stmt} {np pos' : Pos} {hds : List ExceptHandler} {l : List (Value × TSu)} (hc : Names X x c)
      (hsu : ∀ (a : Addr) (oe : Obj) (cls : Value) (d : Option Addr) (pn : List (Addr × Obj)), L2N.Zn cls d oe → (∃ vs, oe.data = .fields vs) → PSs (X.suite a ((a, oe) :: pn)) (b₀ :: suite) (ts a cls d)) (r : HdsA X n hds l) :
      HdsA X n (.ExceptHandler (some (.Name x np)) (some n) (b₀ :: suite) pos' :: hds) ((c, ts) :: l)
section
variable {X : Cx} {n : Str} {i : Nat} {body : List Stmt} {h₀ : ExceptHandler} {hds : List ExceptHandler} {l : List (Value × TSu)} {pos : Pos} {tb : WX → TS} {Wout : WX}
theorem ps_try_manyA (hs : X.stack = X.env :: X.outer) (hf : X.env.frame = some X.env.locals) (hN : X.N.Nodup) (hi : X.N[i]? = some n) (hln : X.env.kindOf n = some .local) (tk : L2N.Takes X Wout)
    (hb : ∀ (W : WX) (pn : List (Addr × Obj)) (xe : Value → Shared → Prop), L2N.Takes (X.tr pn xe) W → PassesOwn (model X.prog X.w) X.A X.env xe → PSs (X.tr pn xe) body (tb W))
    (hh : HdsA X n (h₀ :: hds) l) : PS X (.Try body (h₀ :: hds) [] [] pos) (fun D σ H => tb (wManyA X.K i Wout D l) D σ H) := by
  refine ⟨fun pins s σ H D I h => ?_⟩
  have ok := I.ok
  have fr : X.A.frames = some (X.env :: X.outer) := by rw [ok.frames, hs]
  refine wpAny_Try_except ?_
  refine wpAny_mono ((hb (wManyA X.K i Wout D l) (X.pn ++ pins) (fun e s₁ => wpAny (model X.prog X.w) X.A (noteFrame e X.env) (fun _ s₂ => wpAny (model X.prog X.w) X.A (setFlight e none) (fun _ s₃ =>
    wpAny (model X.prog X.w) X.A (handleBy e X.env (h₀ :: hds)) (SP X pins D) X.xe s₃) X.xe s₂) X.xe s₁) (fun u t xx => ?_) PassesOwn.looking).run [] s σ H D (I.toTry _) h) (fun fl s1 hsp => ?_) (fun e s1 he => he)
  · obtain ⟨a, B, sI, ps1, σ1, H1, cls, d, rfl, J0, nb, up, sky, na, os, ag, w⟩ := xx
    have J : Inv X pins σ1 H1 sI := J0.ofTry ok
    have sky1 : Sky B (X.env :: X.outer) a (L2N.Zn cls d) X.env.locals t.heap := by rw [← hs]; exact sky
    show wpAny (model X.prog X.w) X.A (noteFrame (.ref a) X.env) _ _ _
    refine L2N.Sky.land L2N.Zn.steady fr hf sky1 fun g3 fly3 up3 => ?_
    have J3 : Inv X pins σ1 H1 { t with heap := g3 } := J.landed nb fly3.1 (up.trans up3) os ag
    obtain ⟨oe3, vs3, he3, hz3, hd3⟩ := fly3.there
    have offF : ∀ {g : Heap} {o : Obj} {vs : Array Value}, g.FunFrames B (X.env :: X.outer) → g.get? a = some o → o.data = .fields vs → a ∉ frs (X.env :: X.outer) := fun {g o vs} ff e dd hm => by
      obtain ⟨_, o2, e2, hnf⟩ := ff.mem hm
      rw [e] at e2; cases e2
      exact hnf _ dd
    have off := offF fly3.2.2.1 he3 hd3
    have aL : a ≠ X.env.locals := fun z => off (List.mem_filterMap.mpr ⟨X.env, List.mem_cons_self, by rw [hf, z]⟩)
    have aF : a ∉ X.fs := fun hm => by
      obtain ⟨e, he, q⟩ := List.mem_filterMap.mp hm
      exact off (List.mem_filterMap.mpr ⟨e, List.mem_cons_of_mem _ he, q⟩)
    have S3 := J3.suite he3 hd3 na aL aF
    have go : ∀ {hds2 : List ExceptHandler} {l2 : List (Value × TSu)}, HdsA X n hds2 l2 → wManyA X.K i Wout D l2 cls d σ1 H1 →
        wpAny (model X.prog X.w) X.A (handleBy (.ref a) X.env hds2) (SP X pins D) X.xe { t with heap := g3 } := by
      intro hds2 l2 hk
      induction hk with
      | nil =>
        intro w
        refine wpAny_handleBy_nil ?_
        obtain ⟨k1, k2, k3, oe, vs, Tb, oT, ts2, he, hz, hd, h1, hr⟩ := id fly3
        unfold PySem.passOn
        refine wpAny_bind (wpAny_field he hd h1 ?_)
        rw [if_neg (show ¬ ((Value.ref Tb == Value.none) = true) from by simp)]
        have fin : wpAny (model X.prog X.w) X.A (setFlight (.ref a) X.env.frame) (fun _ s4 => wpAny (model X.prog X.w) X.A (throw (.ref a) : Sem Flow) (SP X pins D) X.xe s4) X.xe { t with heap := g3 } := by
          rw [hf]
          refine HandSPX.setFlight_upZ fly3 fun g4 hh4 up4 => wpAny_throw (tk _ _ ?_)
          exact ⟨a, B, sI, pins, σ1, H1, cls, d, rfl, J, nb, (up.trans up3).trans up4, .inr (.inr (by rw [hs]; exact hh4)), na, os, ag, w⟩
        first
          | exact wpAny_bind (wpAny_pure (wpAny_bind fin))
          | exact wpAny_bind fin
      | @cons x c ts b₀ suite np pos2 hds3 l3 hc hsu r ih =>
        intro w
        obtain ⟨b, hb1, hyes, hno⟩ := w
        refine wpAny_handleBy_cons (codeAny_handlers_test ?_) (by intro q; cases q)
        have LT : PySem.W.Looks (model X.prog X.w) g3 (typeOf (.ref a)) cls := fun A Q E s k q => wpAny_typeOf_ref (k _ _ he3) (by rw [hz3.1]; exact q)
        have LM := PySem.W.exm_one (M := model X.prog X.w) (J3.kIn) LT hb1
        have test : ∀ {Q : Value → Shared → Prop} {E : Value → Shared → Prop}, Q c { t with heap := g3 } → wpAny (model X.prog X.w) (X.A.mark (some (.ref a))) (eval (.Name x np) X.env) Q E { t with heap := g3 } := fun {Q E} q => by
          obtain ⟨hg, hdbg, hm | ⟨hm, hv, hnn⟩⟩ := hc
          · exact ld_glob (X := X.suite a ((a, oe3) :: (X.pn ++ pins))) S3 hg hm q hdbg
          · exact ld_blt (X := X.suite a ((a, oe3) :: (X.pn ++ pins))) S3 hg hm hv q hnn hdbg
        refine test (LM.here ?_)
        cases b with
        | true =>
          refine codeAny_handlers_suite_as ?_
          refine HandSPX.lands_againZ fly3 fun g4 fly4 up4 => ?_
          have J4 : Inv X pins σ1 H1 { t with heap := g4 } := J.landed nb fly4.1 ((up.trans up3).trans up4) os ag
          obtain ⟨oe4, vs4, he4, hz4, hd4⟩ := fly4.there
          have S4 := J4.suite he4 hd4 na aL aF
          refine store_ok (X := X.suite a ((a, oe4) :: (X.pn ++ pins))) (v := .ref a) S4 hN hi (.inl hln) rfl (fun s5 S5 => ?_) (.inr hln)
          refine wpAny_mono ((hsu a oe4 cls d (X.pn ++ pins) hz4 ⟨_, hd4⟩).run [] s5 _ H1 _ S5 (hyes rfl a na)) (fun f s6 hsp => ?_) (fun _ _ z => False.elim z)
          have off_ : ∀ {σ6 : L2.St} {H6 : Hp} {Q : Shared → Prop}, Inv (X.suite a ((a, oe4) :: (X.pn ++ pins))) [] σ6 H6 s6 → (∀ s7, Inv X pins (σ6.set i none) H6 s7 → Q s7) →
              wpAny (model X.prog X.w) X.A (do bindName X.env n .none; unbindBehindTheSuite X.env n pos2) (fun _ s7 => Q s7) X.xe s6 := fun {σ6 H6 Q} S6 hq => gone_ok (S6.unsuite ok) hN hi hln hq
          cases f with
          | next =>
            obtain ⟨σ6, H6, S6, q6⟩ := hsp
            exact off_ S6 fun s7 J7 => ⟨_, _, J7, q6⟩
          | brk =>
            obtain ⟨σ6, H6, S6, q6⟩ := hsp
            exact off_ S6 fun s7 J7 => ⟨_, _, J7, q6⟩
          | cont =>
            obtain ⟨σ6, H6, S6, q6⟩ := hsp
            exact off_ S6 fun s7 J7 => ⟨_, _, J7, q6⟩
          | ret u =>
            obtain ⟨v6, σ6, H6, S6, r6, q6⟩ := hsp
            exact off_ S6 fun s7 J7 => ⟨_, _, _, J7, r6, q6⟩
        | false =>
          show wpAny _ X.A (handleBy (.ref a) X.env hds3) _ _ _
          exact ih (hno rfl)
    exact go hh w
  · cases fl with
    | next =>
      obtain ⟨σ2, H2, J2, q⟩ := hsp
      exact wpAny_execs_nil ⟨σ2, H2, J2.ofTry ok, q⟩
    | brk =>
      obtain ⟨σ2, H2, J2, q⟩ := hsp
      exact ⟨σ2, H2, J2.ofTry ok, q⟩
    | cont =>
      obtain ⟨σ2, H2, J2, q⟩ := hsp
      exact ⟨σ2, H2, J2.ofTry ok, q⟩
    | ret u =>
      obtain ⟨v, σ2, H2, J2, r, q⟩ := hsp
      exact ⟨v, σ2, H2, J2.ofTry ok, r, q⟩
end
end DL
/-! a lambda handed to a def; errors without context -/
namespace DL
open PySem PySem.Spec PyProof.Rows L2 HotX LamX
/-- the lambda's body, its errors without context -/
abbrev lamN (X : Cx) (A : Around) (outer : List Env) (s : Shared) (H : Hp) (E : XK) (scope : Scope) (f c' : Addr) : Cx :=
  { LamX.lamCx X A outer s H E scope f c' with xe := fun e s' => wpAny (model X.prog X.w) (A.deeper (lamEnv X scope s.heap.objs.size f c')) (leaving (lamEnv X scope s.heap.objs.size f c') e) (fun _ t => L2N.CX X.prog X.w outer H s E e t) (fun e' t => L2N.CX X.prog X.w outer H s E e' t) s' }
section
variable {X : Cx} {pins : List (Addr × Obj)} {σ : L2.St} {H HZ : Hp} {s s1 : Shared}
theorem pe_actN {CXg : CXT} {Eg : XK} {Ng : List Str} {qg : Str} {sg : Scope} {g f c' : Addr} {cdg pm ctv : Value} {params : Arguments} {body : Expr} {scope : Scope} {k i : Nat} {a : Str} {pn : List (Addr × Obj)} {xe : Value → Shared → Prop} {W : WX} {E : XK} {tb : TE} {p1 p2 : Pos}
    (I : Inv X pins σ H s) (L : LamS X.env.scope scope) (of : s.heap.get? f = some (PySem.W.kla_obj "<lambda>" (X.env.qual ++ "<lambda>") params body scope (cloFrom X.env.cells scope.names []) pm c' ctv)) (nf : H f = none) (ff : f ∉ frs X.stack)
    (bnd : bindArgs (PySem.W.kla_fn "<lambda>" (X.env.qual ++ "<lambda>") params body scope (cloFrom X.env.cells scope.names []) pm (.ref c') ctv) ⟨[], []⟩ = pure [])
    (tk : L2N.Takes ((cxOf CXg X.prog X.w X.K X.mg X.base Ng qg sg g cdg X.A X.stack s H Eg).tr pn xe) W) (hW : ∀ cls d σ' H', E cls d H' → W cls d σ' H') (hr : Room (k + 1) (X.A.deeper (envOfC qg sg s.heap.objs.size g cdg)))
    (hbody : ∀ (A : Around) (outer : List Env) (s : Shared) (H : Hp), Room k (A.deeper (lamEnv X scope s.heap.objs.size f c')) → PE (lamN X A outer s H E scope f c') body tb)
    (hN : Ng[i]? = some a) (hv : Vis sg a) (hd : (a == ("__debug__" : Str)) = false := by decide) (hcd : (a == ("__classdict__" : Str)) = false := by decide) :
    PE ((cxOf CXg X.prog X.w X.K X.mg X.base Ng qg sg g cdg X.A X.stack s H Eg).tr pn xe) (.Call (.Name a p1) [] [] p2)
      (fun σZ HZ Q => σZ[i]? = some (some (.ref f)) ∧ HZ c' = some (CodeO c' (X.env.qual ++ "<lambda>")) ∧ tb σ HZ Q) := by
  refine ⟨fun pinsZ sZ σZ HZ Q IZ ⟨hs, hc, ht⟩ => ?_⟩
  refine wpAny_Call_Name_kw (thn ((pe_var (pos := p1) (i := i) hN hv hd hcd).run pinsZ sZ σZ HZ (fun v H1 => v = .ref f ∧ H1 = HZ) IZ ⟨.ref f, hs, rfl, rfl⟩) fun u s1 ⟨v, H1, I1, r1, ev, eH⟩ => ?_)
  subst ev
  rw [eH] at I1
  obtain rfl : u = Value.ref f := r1
  have of1 : s1.heap.get? f = some (PySem.W.kla_obj "<lambda>" (X.env.qual ++ "<lambda>") params body scope (cloFrom X.env.cells scope.names []) pm c' ctv) := I1.base.keep f _ of nf ff (fun z => nomatch (show f ∈ ([] : List Addr) from z))
  refine PySem.W.callWith_F0 ⟨_, _, _, _, of1⟩ ?_
  have un : Un (frs X.stack) [] H HZ s.heap s1.heap := I1.base
  obtain ⟨⟨oc, vs, t, hoc, hdc, hvc⟩, _, _⟩ := I1.hok c' _ hc
  have rc : codeAny (model X.prog X.w) (X.A.deeper (envOfC qg sg s.heap.objs.size g cdg)) (.call (.ref f) ⟨[], []⟩) (CR (L2N.CX X.prog X.w) (envOfC qg sg s.heap.objs.size g cdg :: X.stack) X.prog X.w HZ s1 Q E) s1 := by
    refine PySem.W.kla_callFunE hr.depth of1 rfl L.co L.gen rfl ⟨c', oc, vs, t, rfl, hoc, hdc, hvc⟩ ?_
    rw [bnd]
    refine wpAny_pure (wpAny_newFunctionEnv (fun y hy => (L.own y hy).2) (fun y hy => absurd hy (by simp)) (fun h₁ hns hsb => ⟨I1.nolimit.fresh _ hsb, ?_⟩) L.kind)
    show codeAny _ _ (.expr body (lamEnv X scope s1.heap.objs.size f c')) _ _
    have kp : ∀ b o, s1.heap.get? b = some o → h₁.get? b = some o := fun b o e => hsb.extBut b o (Nat.ne_of_lt (Heap.lt_size e)) (Heap.get?_push_of_some _ e)
    have J0 : Inv (lamCx X (X.A.deeper (envOfC qg sg s.heap.objs.size g cdg)) (envOfC qg sg s.heap.objs.size g cdg :: X.stack) s1 HZ E scope f c') [] σ HZ { s1 with heap := h₁, toks := s1.toks + ([] : List (Str × Value)).length } :=
      lam_start2 I L I1.env0 hr.hd un hns kp
    have J : Inv (lamN X (X.A.deeper (envOfC qg sg s.heap.objs.size g cdg)) (envOfC qg sg s.heap.objs.size g cdg :: X.stack) s1 HZ E scope f c') [] σ HZ { s1 with heap := h₁, toks := s1.toks + ([] : List (Str × Value)).length } := J0.wish _
    refine PySem.W.kla_codeExpr (wpAny_mono ((hbody _ _ s1 HZ (hr.deeper _)).run [] _ _ HZ Q J ht) (fun v s' hq => ?_) fun e s' hq => hq)
    obtain ⟨w', H', J', rv, q⟩ := hq
    exact ⟨w', H', J'.os, J'.bare, J'.base, J'.hok, rv, q⟩
  have hx := L2N.passes_call (E := E) tk hW
  refine wpAny_call (codeAny_mono rc fun r s' hq => ?_)
  cases r with
  | error e => exact hx pinsZ σZ HZ s1 e s' I1 hq
  | ok fl =>
    cases fl with
    | ret u => exact I1.after hq
    | next => exact False.elim hq
    | brk => exact False.elim hq
    | cont => exact False.elim hq
end
end DL
namespace DL
open PySem PySem.Spec PyProof.Rows L2 HotX LamX
/-- the def that calls what it got (errors without context) -/
def GivesN (X : Cx) (Ng : List Str) (x : Str) (sg : Scope) (g : Addr) (cdg : Value) (bg : List Stmt) (a : Str) (q : Str) (k : Nat) (TT : (XK → Hp → VK → Prop) → Hp → VK → Prop) : Prop :=
  ∀ (f c' : Addr) (s : Shared) (H : Hp) (Q : VK) (tl : XK → Hp → VK → Prop), Room k (X.A.deeper (envOfC x sg s.heap.objs.size g cdg)) →
    (∀ (W : WX) (pn : List (Addr × Obj)) (xe : Value → Shared → Prop) (E : XK) (p1 p2 : Pos), L2N.Takes ((cxOf C8.CX0 X.prog X.w X.K X.mg X.base Ng x sg g cdg X.A X.stack s H C8.E0).tr pn xe) W → (∀ cls d σ' H', E cls d H' → W cls d σ' H') →
      PE ((cxOf C8.CX0 X.prog X.w X.K X.mg X.base Ng x sg g cdg X.A X.stack s H C8.E0).tr pn xe) (.Call (.Name a p1) [] [] p2) (fun σZ HZ Q => σZ[0]? = some (some (.ref f)) ∧ HZ c' = some (CodeO c' q) ∧ tl E HZ Q)) →
    H c' = some (CodeO c' q) → TT tl H Q →
    ∃ t, PSs (cxOf C8.CX0 X.prog X.w X.K X.mg X.base Ng x sg g cdg X.A X.stack s H C8.E0).nox bg t ∧ t { nx := fun _ H' => Q .non H', rt := Q } (L2.start Ng [.ref f]) H
section
variable {X : Cx}
theorem pe_lamcallN {T : List (Addr × Str)} {TT : (XK → Hp → VK → Prop) → Hp → VK → Prop} {x a : Str} {g c P : Addr} {k : Nat} {pg : Arguments} {bg : List Stmt} {sg : Scope} {dV kV doc pm cdv ct oc : Value} {an od : Option Addr} {osl : Array (Option Value)} {Ng : List Str}
    {params : Arguments} {body : Expr} {scope : Scope} {t : XK → TE} {p lpos pos : Pos} (hg : Gl X x) (hm : X.mg x = some (.ref g)) (hk : PySem.W.keepIn X.K (.ref g) = true)
    (lk : X.K.lookup g = some ⟨oc, od, .func (PySem.W.fnOf x x pg bg sg dV kV doc pm an cdv ct), osl⟩) (hcg : PySem.W.codeIn X.K cdv x = true) (hb : L2.Binds X.K (PySem.W.fnOf x x pg bg sg dV kV doc pm an cdv ct) [a] []) (Sg : FnScope Ng [a] sg) (hNg : Ng[0]? = some a) (hva : Vis sg a)
    (hG : GivesN X Ng x sg g cdv bg a (X.env.qual ++ "<lambda>") (k + 1) TT)
    (TB : TabB X.base X.mg c P) (hcode : X.env.code = .ref c) (hmT : (P, X.env.qual ++ "<lambda>") ∈ T) (hu : ∀ p ∈ T, p.1 = P → p.2 = X.env.qual ++ "<lambda>") (hr : Room (k + 2) X.A) (L : LamS X.env.scope scope) (hdef : defaultsOf params X.env = ([], []))
    (hbind : ∀ (q : Str) (cl : List (Str × Addr)) (pm cv ctv : Value), bindArgs (PySem.W.kla_fn "<lambda>" q params body scope cl pm cv ctv) ⟨[], []⟩ = pure [])
    (hbody : ∀ (A : Around) (outer : List Env) (s : Shared) (H : Hp) (E : XK) (f c' : Addr), Room k (A.deeper (lamEnv X scope s.heap.objs.size f c')) → PE (lamN X A outer s H E scope f c') body (t E))
    (hdb : (x == ("__debug__" : Str)) = false := by decide) (hd : (a == ("__debug__" : Str)) = false := by decide) (hcd : (a == ("__classdict__" : Str)) = false := by decide) :
    PE X (.Call (.Name x p) [.Lambda params body scope lpos] [] pos) (tLam T TT t) := by
  refine ⟨fun pins s σ H Q I ⟨hT, h⟩ => ?_⟩
  refine wpAny_Call_Name_kw (ld_glob I hg hm ?_ hdb)
  refine PySem.W.callWith_K (h₀ := X.base) I.ok.mod.kin hk ?_ (by rfl) (by rfl)
  show wpAny _ _ (spliced ((false, eval (.Lambda params body scope lpos) X.env) :: backTo pos (starEach [] X.env))) _ _ s
  refine Calls.spliced_cons (lam_make2 I TB hcode hmT hu hT hdef (L.has I.ok) fun f c' pm' ctv H1 s1 I1 eN T1 of nf ff hco => ?_)
  refine Calls.spliced_nil ⟨I1.kIn, ?_⟩
  have rc : codeAny (model X.prog X.w) X.A (.call (.ref g) ⟨[.ref f], []⟩) (CR C8.CX0 X.stack X.prog X.w H1 s1 Q C8.E0) s1 := by
    refine run_ofS (N := Ng) (ps := [a]) (us := [.ref f]) (vs := [.ref f]) lk hcg Sg hr I1.env0 (hb s1 [.ref f] I1.kIn rfl) (.cons rfl .nil) rfl fun hr1 => ?_
    obtain ⟨u, hu1, hq1⟩ := hG f c' s1 H1 Q (fun E H' Q' => t E σ H' Q') hr1 (fun W pn xe E p1 p2 tk hW => pe_actN (i := 0) I1 L of nf ff (hbind _ _ _ _ _) tk hW hr1 (fun A outer s H hr2 => hbody A outer s H E f c' hr2) hNg hva hd hcd) hco (h H1 eN T1)
    exact ⟨u, hu1.nox, hq1⟩
  refine wpAny_call (codeAny_mono rc fun r s2 hq => ?_)
  cases r with
  | error e => exact (show False from hq).elim
  | ok fl =>
    cases fl with
    | ret u => exact I1.after hq
    | next => exact False.elim hq
    | brk => exact False.elim hq
    | cont => exact False.elim hq
end
end DL
/-! words for _law_tried -/
namespace DL
open PySem PySem.Spec PyProof.Rows L2 HotX LamX
theorem takes_len {X : Cx} {W : WX} (tk : L2N.Takes X W) : L2N.Takes X (fun cls d σ H => σ.length = X.N.length → W cls d σ H) := fun u s' ⟨a, B, sI, pins, σ, H, cls, d, e, I, nb, up, sky, na, os, ag, w⟩ =>
  tk u s' ⟨a, B, sI, pins, σ, H, cls, d, e, I, nb, up, sky, na, os, ag, w I.len⟩
theorem pss_no {X : Cx} {st : List Stmt} : PSs X st (fun _ _ _ => False) := ⟨fun _ _ _ _ _ _ h => h.elim⟩
theorem hotC_suite {X : Cx} {a : Addr} {oe : Obj} {cls : Value} {d : Option Addr} {pn : List (Addr × Obj)} (z : L2N.Zn cls d oe) (hf : ∃ vs, oe.data = .fields vs) : L2H.Hot1 (X.suite a ((a, oe) :: pn)).A (a, oe) :=
  let ⟨vs, h⟩ := hf; ⟨rfl, vs, h, z.2.2 vs h⟩
end DL
/-! _law_tried(lambda: e) as a reading of data -/
namespace DL
open PySem PySem.Spec PyProof.Rows L2 HotX LamX
/-! ### the lambda is made; nothing that was tracked is forgotten -/
section
variable {X : Cx} {pins : List (Addr × Obj)} {σ : L2.St} {H : Hp} {s : Shared}
theorem lam_mk {T : Tz} {c P : Addr} {ar : Arguments} {bo : Expr} {sc : Scope} {pos : Pos} {Er : Value → Shared → Prop} {R : Value → Shared → Prop} (I : Inv X pins σ H s) (B : TabB X.base X.mg c P) (hc : X.env.code = .ref c)
    (m : (P, X.env.qual ++ "<lambda>") ∈ T) (u : ∀ p ∈ T, p.1 = P → p.2 = X.env.qual ++ "<lambda>") (tb : Tabs T H) (nd : defaultsOf ar X.env = ([], [])) (fr : ∀ y ∈ sc.names, y.2 = .free → ∃ c, X.env.cells.lookup y.1 = some c)
    (k : ∀ (f e : Addr) (pm ct : Value) (H1 : Hp) (s1 : Shared), Inv X pins σ H1 s1 → ExtN H H1 → (∀ b, H1 b = none → H b = none) → Tabs T H1 →
      s1.heap.get? f = some (PySem.W.kla_obj "<lambda>" (X.env.qual ++ "<lambda>") ar bo sc (cloFrom X.env.cells sc.names []) pm e ct) → H1 f = none → f ∉ frs X.stack → H1 e = some (CodeO e (X.env.qual ++ "<lambda>")) → R (.ref f) s1) :
    wpAny (model X.prog X.w) X.A (eval (.Lambda ar bo sc pos) X.env) R Er s := by
  obtain ⟨ts, eP, tr, am⟩ := tb _ m
  have oP := I.hok P _ eP
  have bI := B.bm.keeps I.bk
  have far : ∀ f, s.heap.objs.size ≤ f → f ∉ frs X.stack := fun f hf hm => by
    rcases List.mem_cons.mp (I.stkSub _ hm) with q | q
    · have l := I.lt
      rw [← q] at l
      exact absurd (Nat.lt_of_lt_of_le l hf) (Nat.lt_irrefl _)
    · exact I.nofs hf q
  refine PySem.W.kla_eval nd ?_
  cases am0 : codeAmong pos ts.toList with
  | some cv =>
    obtain ⟨e, rfl, he⟩ := am pos cv am0
    refine PySem.W.kla_makeFunctionHit (c := c) (P := P) (mg := X.mg) (ps := ts) (closure_ok fr) I.ok.glob (I.mod.glob.keeps I.bk) hc (B.code.keeps I.bk) oP tr am0 bI fun ct h1 t1 x1 z1 => ?_
    exact k h1.objs.size e ((X.mg "__name__").getD .none) ct H _ (I.kept fun b o q => Heap.get?_push_of_some _ (x1 b o q)) (ExtN.refl H) (fun _ q => q) tb (Heap.get?_push_size _ rfl) (I.hok.fresh z1) (far _ z1) he
  | none =>
    refine PySem.W.kla_makeFunction (c := c) (P := P) (mg := X.mg) (ps := ts) (closure_ok fr) I.ok.glob (I.mod.glob.keeps I.bk) hc (B.code.keeps I.bk) oP tr am0 B.gP bI fun e ct h1 t1 x1 g1 l1 r1 p1 => ?_
    obtain ⟨c2, oc, vs, t, q, a1, a2, a3⟩ := r1
    cases q
    have z1 : s.heap.objs.size ≤ h1.objs.size := Nat.le_trans g1 (Nat.le_of_lt l1)
    have nE : H e = none := I.hok.fresh g1
    let ts2 : Array Value := ts ++ #[rawInt pos.line, rawInt pos.col, .ref e]
    let H1 : Hp := upd (upd H P (.tbl ts2)) e (CodeO e (X.env.qual ++ "<lambda>"))
    have J := inv_table (t' := t1) (q := X.env.qual ++ "<lambda>") (more := #[rawInt pos.line, rawInt pos.col, .ref e]) (h' := h1.push (PySem.W.kla_obj "<lambda>" (X.env.qual ++ "<lambda>") ar bo sc (cloFrom X.env.cells sc.names []) ((X.mg "__name__").getD .none) e ct)) I eP
      (fun b o hb q => Heap.get?_push_of_some _ (x1 b o hb q)) (Heap.get?_push_of_some _ p1) g1 ⟨oc, vs, t, Heap.get?_push_of_some _ a1, a2, a3⟩
    have xn : ExtN H H1 := fun b o q n => by
      have b1 : b ≠ e := ne_of_none q nE
      have b2 : b ≠ P := fun z => by rw [z, eP] at q; exact n ts (Option.some.inj q).symm
      show upd (upd H P (.tbl ts2)) e _ b = some o
      rw [upd_ne b1, upd_ne b2]; exact q
    have dm : ∀ b, H1 b = none → H b = none := fun b q => by
      by_cases b1 : b = e
      · rw [b1]; exact nE
      · by_cases b2 : b = P
        · have q : upd (upd H P (.tbl ts2)) e (CodeO e (X.env.qual ++ "<lambda>")) b = none := q
          rw [upd_ne b1, b2, upd_same] at q; cases q
        · have q : upd (upd H P (.tbl ts2)) e (CodeO e (X.env.qual ++ "<lambda>")) b = none := q
          rw [upd_ne b1, upd_ne b2] at q; exact q
    have eL : ts2.toList = ts.toList ++ [rawInt pos.line, rawInt pos.col, .ref e] := by simp [ts2]
    refine k h1.objs.size e ((X.mg "__name__").getD .none) ct H1 _ J xn dm (fun p hp => ?_) (Heap.get?_push_size _ rfl) ?_ (far _ z1) upd_same
    · by_cases hb : p.1 = P
      · rw [u p hp hb, hb]
        refine ⟨ts2, ?_, by rw [eL]; exact PySem.TriplesOk_snoc _ _ _ _ tr, fun p2 cv q => ?_⟩
        · show upd (upd H P (.tbl ts2)) e _ P = _
          rw [upd_ne (ne_of_none eP nE), upd_same]
        · rw [eL] at q
          rcases among_app _ tr q with z | z
          · obtain ⟨d, d1, d2⟩ := am p2 cv z
            exact ⟨d, d1, xn _ _ d2 codeO_ne⟩
          · exact ⟨e, z, upd_same⟩
      · obtain ⟨ws, d1, d2, d3⟩ := tb p hp
        refine ⟨ws, ?_, d2, fun p2 cv q => ?_⟩
        · show upd (upd H P (.tbl ts2)) e _ p.1 = _
          rw [upd_ne (ne_of_none d1 nE), upd_ne hb]; exact d1
        · obtain ⟨d, d4, d5⟩ := d3 p2 cv q
          exact ⟨d, d4, xn _ _ d5 codeO_ne⟩
    · show upd (upd H P (.tbl ts2)) e _ h1.objs.size = none
      rw [upd_ne (Nat.ne_of_gt l1), upd_ne (Nat.ne_of_gt (Nat.lt_of_lt_of_le (Heap.lt_size oP) z1))]
      exact I.hok.fresh z1
end
def tLm (T : Tz) (TT : (XK → Hp → VK → Prop) → Hp → VK → Prop) (t : XK → TE) : TE := fun σ H Q => Tabs T H ∧ ∀ H1, ExtN H H1 → (∀ b, H1 b = none → H b = none) → Tabs T H1 → TT (fun E H' Q' => t E σ H' Q') H1 Q
section
variable {X : Cx}
theorem pe_lamD {T : Tz} {TT : (XK → Hp → VK → Prop) → Hp → VK → Prop} {x a : Str} {g c P : Addr} {k : Nat} {pg : Arguments} {bg : List Stmt} {sg : Scope} {dV kV doc pm cdv ct oc : Value} {an od : Option Addr} {osl : Array (Option Value)} {Ng : List Str}
    {ar : Arguments} {bo : Expr} {sc : Scope} {t : XK → TE} {p lpos pos : Pos} (hg : Gl X x) (hm : X.mg x = some (.ref g)) (hk : PySem.W.keepIn X.K (.ref g) = true)
    (lk : X.K.lookup g = some ⟨oc, od, .func (PySem.W.fnOf x x pg bg sg dV kV doc pm an cdv ct), osl⟩) (hcg : PySem.W.codeIn X.K cdv x = true) (hb : L2.Binds X.K (PySem.W.fnOf x x pg bg sg dV kV doc pm an cdv ct) [a] []) (Sg : FnScope Ng [a] sg) (hNg : Ng[0]? = some a) (hva : Vis sg a)
    (hG : GivesN X Ng x sg g cdv bg a (X.env.qual ++ "<lambda>") (k + 1) TT)
    (B : TabB X.base X.mg c P) (hc : X.env.code = .ref c) (m : (P, X.env.qual ++ "<lambda>") ∈ T) (u : ∀ p ∈ T, p.1 = P → p.2 = X.env.qual ++ "<lambda>") (hr : Room (k + 2) X.A) (L : LamS X.env.scope sc) (nd : defaultsOf ar X.env = ([], []))
    (bnd : ∀ (q : Str) (cl : List (Str × Addr)) (pm cv ctv : Value), bindArgs (PySem.W.kla_fn "<lambda>" q ar bo sc cl pm cv ctv) ⟨[], []⟩ = pure [])
    (hbody : ∀ (A : Around) (outer : List Env) (s : Shared) (H : Hp) (E : XK) (f e : Addr), Room k (A.deeper (lamEnv X sc s.heap.objs.size f e)) → PE (lamN X A outer s H E sc f e) bo (t E))
    (hdb : (x == ("__debug__" : Str)) = false := by decide) (hd : (a == ("__debug__" : Str)) = false := by decide) (hcd : (a == ("__classdict__" : Str)) = false := by decide) :
    PE X (.Call (.Name x p) [.Lambda ar bo sc lpos] [] pos) (tLm T TT t) := by
  refine ⟨fun pins s σ H Q I ⟨hT, h⟩ => ?_⟩
  refine wpAny_Call_Name_kw (ld_glob I hg hm ?_ hdb)
  refine PySem.W.callWith_K (h₀ := X.base) I.ok.mod.kin hk ?_ (by rfl) (by rfl)
  show wpAny _ _ (spliced ((false, eval (.Lambda ar bo sc lpos) X.env) :: backTo pos (starEach [] X.env))) _ _ s
  refine Calls.spliced_cons (lam_mk I B hc m u hT nd (L.has I.ok) fun f e pm1 ct1 H1 s1 I1 xn dm T1 of nf ff ho => ?_)
  refine Calls.spliced_nil ⟨I1.kIn, ?_⟩
  have run : codeAny (model X.prog X.w) X.A (.call (.ref g) ⟨[.ref f], []⟩) (CR C8.CX0 X.stack X.prog X.w H1 s1 Q C8.E0) s1 :=
    run_ofS (N := Ng) (ps := [a]) (us := [.ref f]) (vs := [.ref f]) lk hcg Sg hr I1.env0 (hb s1 [.ref f] I1.kIn rfl) (.cons rfl .nil) rfl fun hr1 =>
      let ⟨w, w1, w2⟩ := hG f e s1 H1 Q (fun E H' Q' => t E σ H' Q') hr1 (fun W pn xe E p1 p2 tk hW => pe_actN (i := 0) I1 L of nf ff (bnd _ _ _ _ _) tk hW hr1 (fun A outer s H hr2 => hbody A outer s H E f e hr2) hNg hva hd hcd) ho (h H1 xn dm T1)
      ⟨w, w1.nox, w2⟩
  refine wpAny_call (codeAny_mono run fun r s2 q => ?_)
  match r, q with
  | .ok (.ret _), q => exact I1.after q
  | .error _, q => exact (show False from q).elim
  | .ok .next, q => exact (show False from q).elim
  | .ok .brk, q => exact (show False from q).elim
  | .ok .cont, q => exact (show False from q).elim
end
/-! ### states: the heap grown, the tables aside -/
section
variable {K : PySem.W.Frag} {T : Tz} {S S0 : Sx}
theorem Ok.ext {H' : Hp} (ok : Ok K T S) (x : Ext S.H H') : Ok K T ⟨S.F, S.ρ, S.σ, H'⟩ where
  sub := fun a o h => x a o (ok.sub a o h)
  tab := ok.tab.ext x
  len := ok.len
  slot := fun i s h => by
    cases w : s.owned with
    | false => exact (ok.slot i s h).val w (G.refl _)
    | true =>
      obtain ⟨p, u, h1, h2, h3, h4⟩ := (ok.slot i s h).at w
      exact slR.of h1 h2 (x _ _ h3) h4
  dis := ok.dis
theorem Go.ext {H' : Hp} (x : Ext S.H H') : Go S ⟨S.F, S.ρ, S.σ, H'⟩ :=
  ⟨G.refl _, fun a o h _ _ => x a o h, fun _ h => .inl h, fun _ h => .inl h, fun _ h => .inl h, fun _ h => x.none h, fun i s h1 h2 h3 => ⟨rfl, s, h1, h2, h3⟩⟩
open Classical in
/-- without the tables -/
noncomputable def noT (F : Hp) : Hp := fun a => if (∃ ps, F a = some (.tbl ps)) then none else F a
theorem noT_some {F : Hp} {a : Addr} {o : HO} (h : noT F a = some o) : F a = some o ∧ ∀ ps, o ≠ .tbl ps := by
  unfold noT at h
  split at h
  · cases h
  · rename_i n
    exact ⟨h, fun ps z => n ⟨ps, by rw [h, z]⟩⟩
theorem noT_of {F : Hp} {a : Addr} {o : HO} (h : F a = some o) (n : ∀ ps, o ≠ .tbl ps) : noT F a = some o := by
  unfold noT
  rw [if_neg (fun ⟨ps, e⟩ => n ps (Option.some.inj (h.symm.trans e)))]
  exact h
theorem noT_none {F : Hp} {a : Addr} (h : F a = none) : noT F a = none := by
  unfold noT
  rw [h]; split <;> rfl
theorem Ok.lamd {H' : Hp} (ok : Ok K T S) (x : ExtN S.H H') (tb : Tabs T H') : Ok K T ⟨noT S.F, S.ρ, S.σ, H'⟩ where
  sub := fun a o h => let ⟨h1, h2⟩ := noT_some h; x a o (ok.sub a o h1) h2
  tab := tb
  len := ok.len
  slot := fun i s h => by
    have gF : G S.F (noT S.F) := fun a o h n => noT_of h n
    cases w : s.owned with
    | false => exact (ok.slot i s h).val w gF
    | true =>
      obtain ⟨p, u, h1, h2, h3, h4⟩ := (ok.slot i s h).at w
      exact slR.of h1 (noT_none h2) (x _ _ h3 (cont_tbl h4)) (h4.mono gF)
  dis := ok.dis
theorem Go.lamd {H' : Hp} (x : ExtN S.H H') (dm : ∀ b, H' b = none → S.H b = none) : Go S ⟨noT S.F, S.ρ, S.σ, H'⟩ :=
  ⟨fun a o h n => noT_of h n, fun a o h n _ => x a o h n, fun a h => .inl (fun z => h (noT_none z)), fun _ h => .inl h, fun _ h => .inl h, fun _ h => dm _ h, fun i s h1 h2 h3 => ⟨rfl, s, h1, h2, h3⟩⟩
/-- what is still known of the slots ρ where an error has come out of ρ' -/
def mrg : List Sl → List Sl → List Sl
  | s :: ρ, t :: ρ' => (if t.owned && !t.fresh then t else if s.owned then .no else s) :: mrg ρ ρ'
  | s :: ρ, [] => (if s.owned then .no else s) :: mrg ρ []
  | [], _ => []
theorem mrg_len : ∀ {ρ ρ' : List Sl}, (mrg ρ ρ').length = ρ.length
  | [], _ => rfl
  | _ :: _, _ :: _ => congrArg (· + 1) mrg_len
  | _ :: _, [] => congrArg (· + 1) mrg_len
theorem mrg_at : ∀ {ρ ρ' : List Sl} {i : Nat} {u : Sl}, (mrg ρ ρ')[i]? = some u → (ρ'[i]? = some u ∧ u.owned = true ∧ u.fresh = false) ∨ u = .no ∨ (ρ[i]? = some u ∧ u.owned = false)
  | s :: ρ, t :: ρ', 0, u, h => by
    have h : (if (t.owned && !t.fresh) = true then t else if s.owned then Sl.no else s) = u := by simpa [mrg] using h
    split at h
    · rename_i q
      simp only [Bool.and_eq_true, Bool.not_eq_true'] at q
      subst h
      exact .inl ⟨rfl, q.1, q.2⟩
    · split at h
      · exact .inr (.inl h.symm)
      · rename_i q
        subst h
        exact .inr (.inr ⟨rfl, by simpa using q⟩)
  | s :: ρ, t :: ρ', i + 1, u, h => by simpa using mrg_at (ρ := ρ) (ρ' := ρ') (i := i) (by simpa [mrg] using h)
  | [], _, _, _, h => by simp [mrg] at h
  | s :: ρ, [], 0, u, h => by
    have h : (if s.owned then Sl.no else s) = u := by simpa [mrg] using h
    split at h
    · exact .inr (.inl h.symm)
    · rename_i q
      subst h
      exact .inr (.inr ⟨rfl, by simpa using q⟩)
  | s :: ρ, [], i + 1, u, h => by simpa using mrg_at (ρ := ρ) (ρ' := []) (i := i) (by simpa [mrg] using h)
theorem mrg_ok (ok0 : Ok K T S0) (ok : Ok K T S) (g : Go S0 S) : Ok K T ⟨S.F, mrg S0.ρ S.ρ, S0.σ, S.H⟩ ∧ Go S0 ⟨S.F, mrg S0.ρ S.ρ, S0.σ, S.H⟩ := by
  have key : ∀ (i : Nat) (u : Sl), (mrg S0.ρ S.ρ)[i]? = some u → u.owned = true → S.ρ[i]? = some u ∧ u.fresh = false ∧ S.σ[i]? = S0.σ[i]? ∧ ∃ t, S0.ρ[i]? = some t ∧ t.owned = true ∧ t.fresh = false := fun i u h w => by
    rcases mrg_at h with ⟨h1, h2, h3⟩ | rfl | ⟨_, h2⟩
    · obtain ⟨p1, p2⟩ := g.pin i u h1 h2 h3
      exact ⟨h1, h3, p1, p2⟩
    · cases w
    · rw [w] at h2; cases h2
  refine ⟨⟨ok.sub, ok.tab, mrg_len.trans ok0.len, fun i u h => ?_, fun i j s t a h1 h2 w1 w2 e1 e2 => ?_⟩, ⟨g.g, g.kp, g.nw, fun a ⟨i, u, h1, w, h2⟩ => ?_, fun a ⟨i, u, h1, w, f, h2⟩ => ?_, g.dom, fun i u h1 w f => ?_⟩⟩
  · show slR K S.F S.H u S0.σ[i]?
    cases w : u.owned with
    | true =>
      obtain ⟨k1, _, k3, _⟩ := key i u h w
      rw [← k3]; exact ok.slot i u k1
    | false =>
      rcases mrg_at h with ⟨_, h2, _⟩ | rfl | ⟨h1, _⟩
      · rw [w] at h2; cases h2
      · trivial
      · exact (ok0.slot i u h1).val w g.g
  · obtain ⟨k1, _, k3, _⟩ := key i s h1 w1
    obtain ⟨l1, _, l3, _⟩ := key j t h2 w2
    exact ok.dis i j s t a k1 l1 w1 w2 (by rw [k3]; exact e1) (by rw [l3]; exact e2)
  · obtain ⟨k1, _, k3, _⟩ := key i u h1 w
    exact g.ow a ⟨i, u, k1, w, by rw [k3]; exact h2⟩
  · obtain ⟨_, k2, _⟩ := key i u h1 w
    rw [k2] at f; cases f
  · obtain ⟨_, _, _, k4⟩ := key i u h1 w
    exact ⟨rfl, k4⟩
end
/-! ### _law_kind, _law_tried: what is said of them in any text -/
structure KindF (K : PySem.W.Frag) (mg : Str → Option Value) (Da : Addr) (bs : List Bool) : Prop where
  c : ExcC K Da
  i : mg "isinstance" = none
  z : mg "zip" = none
  l : bs.length = 10
  e0 : ∃ a, mg "NoCup" = some (.ref a) ∧ PySem.W.kitOne K (.ref Da) (.ref a) = some (bs.getD 0 false)
  e1 : ∃ a, mg "NoPlayer" = some (.ref a) ∧ PySem.W.kitOne K (.ref Da) (.ref a) = some (bs.getD 1 false)
  e2 : ∃ a, mg "NoNumber" = some (.ref a) ∧ PySem.W.kitOne K (.ref Da) (.ref a) = some (bs.getD 2 false)
  e3 : ∃ a, mg "NoOrder" = some (.ref a) ∧ PySem.W.kitOne K (.ref Da) (.ref a) = some (bs.getD 3 false)
  e4 : ∃ a, mg "NoField" = some (.ref a) ∧ PySem.W.kitOne K (.ref Da) (.ref a) = some (bs.getD 4 false)
  e5 : ∃ a, mg "NoRace" = some (.ref a) ∧ PySem.W.kitOne K (.ref Da) (.ref a) = some (bs.getD 5 false)
  e6 : ∃ a, mg "NotPeers" = some (.ref a) ∧ PySem.W.kitOne K (.ref Da) (.ref a) = some (bs.getD 6 false)
  e7 : ∃ a, mg "NothingLeft" = some (.ref a) ∧ PySem.W.kitOne K (.ref Da) (.ref a) = some (bs.getD 7 false)
  e8 : ∃ a, mg "TooMany" = some (.ref a) ∧ PySem.W.kitOne K (.ref Da) (.ref a) = some (bs.getD 8 false)
  e9 : ∃ a, mg "NoText" = some (.ref a) ∧ PySem.W.kitOne K (.ref Da) (.ref a) = some (bs.getD 9 false)
def kindWords : List Str := ["NoCup", "NoPlayer", "NoNumber", "NoOrder", "NoField", "NoRace", "NotPeers", "NothingLeft", "TooMany", "NoText"]
def spKind (K : PySem.W.Frag) (mg : Str → Option Value) : SpK := fun _ cls d H Q => ∃ Da bs, cls = .ref Da ∧ d = none ∧ KindF K mg Da bs ∧ ∀ H', Ext H H' → Q (.str (Txt.join "" (pick kindWords bs))) H'
/-- what a caught error's class must say -/
structure ErrF (K : PySem.W.Frag) (mg : Str → Option Value) (Da : Addr) (bs : List Bool) : Prop where
  t : ∃ a, mg "TooMany" = some (.ref a) ∧ PySem.W.exmOne K (.ref Da) (.ref a) = some false
  n : ∃ a, mg "NoText" = some (.ref a) ∧ PySem.W.exmOne K (.ref Da) (.ref a) = some false
  c : ∃ a, mg "CupError" = some (.ref a) ∧ PySem.W.exmOne K (.ref Da) (.ref a) = some true
  k : KindF K mg Da bs
/-- its word -/
def Knd (K : PySem.W.Frag) (mg : Str → Option Value) (Da : Addr) (x : Str) : Prop := ∃ bs, ErrF K mg Da bs ∧ Txt.join "" (pick kindWords bs) = x
def EErr (K : PySem.W.Frag) (mg : Str → Option Value) (Q : VK) : XK := fun cls d H => ∃ Da x, cls = .ref Da ∧ Knd K mg Da x ∧ d = none ∧ ∀ H' p, Ext H H' → H' p = none → Q (.ref p) (upd H' p (.tup [.str x]))
def TTried (K : PySem.W.Frag) (mg : Str → Option Value) : (XK → Hp → VK → Prop) → Hp → VK → Prop := fun tl H Q => ∀ H0, Ext H H0 → tl (EErr K mg Q) H0 (fun v H' => [V.str "told", v].length ≤ sizeLine ∧ ∀ p, H' p = none → ∃ u, some (some (V.ref p)) = some (some u) ∧ Q u (upd H' p (.tup [.str "told", v])))
structure TriedAt (P : Program) (w : World) (K : PySem.W.Frag) (mg : Str → Option Value) (base : Heap) (k : Nat) : Prop where
  ex : ∃ (g : Addr) (pg : Arguments) (bg : List Stmt) (sg : Scope) (dV kV doc pm cdv ct oc : Value) (an od : Option Addr) (osl : Array (Option Value)) (Ng : List Str), mg "_law_tried" = some (.ref g) ∧ PySem.W.keepIn K (.ref g) = true ∧
    K.lookup g = some ⟨oc, od, .func (PySem.W.fnOf "_law_tried" "_law_tried" pg bg sg dV kV doc pm an cdv ct), osl⟩ ∧ PySem.W.codeIn K cdv "_law_tried" = true ∧ L2.Binds K (PySem.W.fnOf "_law_tried" "_law_tried" pg bg sg dV kV doc pm an cdv ct) ["call"] [] ∧
    FnScope Ng ["call"] sg ∧ Ng[0]? = some ("call" : Str) ∧ Vis sg "call" ∧ ∀ X : Cx, X.prog = P → X.w = w → X.K = K → X.mg = mg → X.base = base → ∀ q, GivesN X Ng "_law_tried" sg g cdv bg "call" q (k + 1) (TTried K mg)
def rTried (K : PySem.W.Frag) (mg : Str → Option Value) (t : (Er → List Sl → Prop) → TEd) : TEd := fun ρ Q =>
  t (fun er ρ' => er.fs = [] ∧ ∃ x, Knd K mg er.cls x ∧ Q (.val (.tup [.str x])) (mrg ρ ρ')) ρ fun r ρ' => match cl1 ρ' r with
    | some (d, ρ2) => Q (.val (.tup [.str "told", d])) ρ2
    | none => False
theorem d_tried {C : Cd} {k : Nat} {c P : Addr} {ar : Arguments} {bo : Expr} {sc : Scope} {t : (Er → List Sl → Prop) → TEd} {p lpos pos : Pos} (Tr : TriedAt C.X.prog C.X.w C.X.K C.X.mg C.X.base k) (hk : k + 2 ≤ C.k)
    (B : TabB C.X.base C.X.mg c P) (hc : C.X.env.code = .ref c) (m : (P, C.X.env.qual ++ "<lambda>") ∈ C.T) (u : ∀ p ∈ C.T, p.1 = P → p.2 = C.X.env.qual ++ "<lambda>") (L : LamS C.X.env.scope sc)
    (hb : ∀ (A : Around) (outer : List Env) (s : Shared) (H : Hp) (E : XK) (f e : Addr) (S0 : Sx) (W : WX) (R : Er → List Sl → Prop), PEd ⟨lamN C.X A outer s H E sc f e, C.T, S0, W, R, k⟩ bo (t R))
    (hg : Gl C.X "_law_tried" := by exact rfl) (nd : defaultsOf ar C.X.env = ([], []) := by rfl)
    (bnd : ∀ (q : Str) (cl : List (Str × Addr)) (pm cv ctv : Value), bindArgs (PySem.W.kla_fn "<lambda>" q ar bo sc cl pm cv ctv) ⟨[], []⟩ = pure [] := by intro _ _ _ _ _; rfl) :
    PEd C (.Call (.Name "_law_tried" p) [.Lambda ar bo sc lpos] [] pos) (rTried C.X.K C.X.mg t) := by
  intro c0 S Q Q' ok g0 h kk
  obtain ⟨g, pg, bg, sg, dV, kV, doc, pm, cdv, ct, oc, an, od, osl, Ng, h1, h2, h3, h4, h5, h6, h7, h8, h9⟩ := Tr.ex
  refine wE.of (pe_lamD (k := k) (TT := TTried C.X.K C.X.mg) (t := fun E σ H Qv => ∀ (A : Around) (outer : List Env) (s0 : Shared) (H0 : Hp) (f e : Addr), Room k (A.deeper (lamEnv C.X sc s0.heap.objs.size f e)) → wE (lamN C.X A outer s0 H0 E sc f e) bo σ H Qv)
    hg h1 h2 h3 h4 h5 h6 h7 h8 (h9 C.X rfl rfl rfl rfl rfl _) B hc m u (c0.room.mono hk) L nd bnd (fun A outer s H E f e hr => ⟨fun pins s' σ H' Q I h => h A outer s H f e hr pins s' I⟩)) ?_
  refine ⟨ok.tab, fun H1 xn dm tb => fun H0 x0 A outer s0 Hz f e hr => ?_⟩
  have ok2 : Ok C.X.K C.T ⟨noT S.F, S.ρ, S.σ, H0⟩ := (ok.lamd xn tb).ext x0
  have g2 : Go S ⟨noT S.F, S.ρ, S.σ, H0⟩ := (Go.lamd xn dm).trans (Go.ext x0)
  refine hb A outer s0 Hz (EErr C.X.K C.X.mg Q') f e ⟨noT S.F, S.ρ, S.σ, H0⟩ (fun cls d _ H => EErr C.X.K C.X.mg Q' cls d H) _ ⟨L2N.takes_of rfl rfl rfl rfl, hr, rfl, c0.nd, PassesOwn.leaving, fun er S' cls d r ok' g' hE => ?_⟩ ⟨noT S.F, S.ρ, S.σ, H0⟩ _ _ ok2 (Go.refl _) h fun r v F' ρ' H' q ok' g' rr => ?_
  · obtain ⟨r1, x, r2, r3⟩ := r
    obtain ⟨rfl, hE⟩ := hE
    have hd : d = none := hE.elim (fun z => z.2) fun z => absurd r1 z.1
    refine ⟨er.cls, x, rfl, r2, hd, fun H2 p x2 np => ?_⟩
    obtain ⟨okm, gm⟩ := mrg_ok ok2 ok' g'
    obtain ⟨ok4, g4, r4⟩ := lay_tup (okm.ext x2) (RpL.one (.str x)) np
    exact kk _ _ _ _ _ r3 ok4 (g2.trans (gm.trans ((Go.ext (S := ⟨S'.F, mrg S.ρ S'.ρ, S.σ, S'.H⟩) x2).trans g4))) r4
  · have q : (match cl1 ρ' r with | some (d, ρ2) => Q (.val (.tup [.str "told", d])) ρ2 | none => False) := q
    split at q
    · rename_i d ρ2 e1
      obtain ⟨F2, ok3, g3, _, r3⟩ := clean (S0 := ⟨noT S.F, S.ρ, S.σ, H0⟩) ok' g' rr e1
      refine ⟨by show 2 ≤ sizeLine; decide, fun p np => ⟨_, rfl, ?_⟩⟩
      obtain ⟨ok4, g4, r4⟩ := lay_tup ok3 (.cons (.str "told") (.one r3)) np
      exact kk _ _ _ _ _ q ok4 (g2.trans (g3.trans g4)) r4
    · exact q.elim
end DL
/-! the law's def, where defs make lambdas -/
namespace DL
open PySem PySem.Spec PyProof.Rows L2 LamX
/-- only the tables and the script's list are tracked -/
def OnlyT (ts : List Addr) (H : Hp) : Prop := ∀ b, H b = none ∨ b ∈ ts ∨ ∃ o xs, H b = some (.frz o (.lst xs))
abbrev tabO : Obj := { cls := .none, data := .fields #[] }
abbrev lstO (vs : List Value) : Obj := { cls := .type "list", data := .seq vs.toArray }
theorem law_tabs {P : Program} {w : World} {K : PySem.W.Frag} {mg mb : Str → Option Value} {CX : CXT} {k : Nat} {fa a : Addr} {cs : List (Addr × Addr)} {fd : FuncData} {x : Str} {sp : Sp} {s : Shared} {vs : List Value} {ns : List Int}
    (kx : K.In s.heap) (gx : s.heap.Ns mainGlobals mg) (bx : s.heap.Ns builtinsNs mb) (bb : ∀ x : Str, x ≠ "__name__" → mb x = bootBuiltins x) (lim : s.heap.NoLimit) (ge : s.gens = #[])
    (tO : ∀ p ∈ cs, s.heap.get? p.2 = some tabO) (tN : ∀ p ∈ cs, K.lookup p.2 = none) (cH : ∀ p ∈ cs, PySem.W.CodeHd s.heap p.1 p.2)
    (bm : ∃ (bm : Addr) (ob : Obj), mg "__builtins__" = some (.ref bm) ∧ bm ≠ builtinsNs ∧ s.heap.get? bm = some ob ∧ ob.cls = .type "module" ∧ ob.dict = some builtinsNs ∧ ob.data = .plain)
    (aO : s.heap.get? a = some (lstO vs)) (ia : IntsAre vs ns) (hl : ns.length ≤ sizeLine) (hr : Room k callerA)
    (F : ∀ base : Heap, K.In base → base.Ns mainGlobals mg → (∀ p ∈ cs, TabB base mg p.1 p.2) → FnOk P w K mg base CX k fa fd [x] sp) (bd : ∀ (s : Shared) (u : Value), BindsTo s fd ⟨[u], []⟩ [(x, u)])
    (hsp : ∀ H : Hp, OnlyT (cs.map (·.2)) H → (∀ p ∈ cs, H p.2 = some (.tbl #[])) → SqL K H a (ns.map V.int) → sp [.ref a] H (fun v _ => v = .bl true) fun _ _ _ => False)
    (hx : ∀ H e s', CX [] H s (fun _ _ _ => False) e s' → False) :
    codeAny (model P w) callerA (.call (.ref fa) ⟨[.ref a], []⟩) (fun r s' => r = .ok (.ret (.bool true)) ∧ OldK s.heap s'.heap ∧ s'.os = s.os ∧ AllBare s'.gens) s := by
  have rv := vals_ints ia
  have lv : vs.length ≤ sizeLine := by rw [ia.length]; exact hl
  obtain ⟨ts, hts⟩ : ∃ ts, ts = cs.map (·.2) := ⟨_, rfl⟩
  have inT : ∀ p ∈ cs, p.2 ∈ ts := fun p hp => by rw [hts]; exact List.mem_map_of_mem (f := (·.2)) hp
  have ofT : ∀ b ∈ ts, ∃ p ∈ cs, p.2 = b := fun b hb => by rw [hts] at hb; exact List.mem_map.mp hb
  have oT : ∀ b ∈ ts, s.heap.get? b = some tabO := fun b hb => let ⟨p, hp, e⟩ := ofT b hb; e ▸ tO p hp
  have aT : a ∉ ts := fun z => by
    have q := (oT a z).symm.trans aO
    have q2 : Data.fields #[] = Data.seq vs.toArray 0 := congrArg Obj.data (Option.some.inj q)
    cases q2
  let H : Hp := fun b => if b ∈ ts then some (.tbl #[]) else if b = a ∧ (K.lookup a).isNone = true then some (.frz (lstO vs) (.lst (ns.map V.int))) else none
  have HT : ∀ b ∈ ts, H b = some (.tbl #[]) := fun b hb => if_pos hb
  have Hc : ∀ b u, H b = some u → (b ∈ ts ∧ u = .tbl #[]) ∨ (b ∉ ts ∧ b = a ∧ K.lookup a = none ∧ u = .frz (lstO vs) (.lst (ns.map V.int))) := fun b u e => by
    by_cases h1 : b ∈ ts
    · exact .inl ⟨h1, (Option.some.inj ((if_pos h1).symm.trans e)).symm⟩
    · have e := (if_neg h1).symm.trans e
      by_cases h2 : b = a ∧ (K.lookup a).isNone = true
      · exact .inr ⟨h1, h2.1, by simpa using h2.2, (Option.some.inj ((if_pos h2).symm.trans e)).symm⟩
      · cases (if_neg h2).symm.trans e
  have HL : SqL K H a (ns.map V.int) := by
    cases ka : K.lookup a with
    | none => exact .inl (.inr ⟨_, (if_neg aT).trans (if_pos ⟨rfl, by rw [ka]; rfl⟩)⟩)
    | some o =>
      have q := kx a o ka
      rw [aO] at q
      cases q
      exact .inr ⟨_, vs.toArray, _, ka, rfl, rfl, rfl, by rw [List.size_toArray]; exact lv, by simpa using rv⟩
  have HO : HOk P w H s.heap := fun b u e => by
    rcases Hc b u e with ⟨h1, rfl⟩ | ⟨_, rfl, _, rfl⟩
    · exact oT b h1
    · exact ⟨aO, by rw [List.length_map]; exact hl, vs, _, rv, aO⟩
  -- what is not tracked
  have un1 : ∀ {b : Addr} {o : Obj}, s.heap.get? b = some o → (∀ ws n, o.data ≠ .seq ws n) → o.data ≠ .fields #[] → H b = none := fun {b o} e h1 h2 => by
    cases q : H b with
    | none => rfl
    | some u =>
      rcases Hc b u q with ⟨z, _⟩ | ⟨_, rfl, _⟩
      · cases (oT b z).symm.trans e; exact absurd rfl h2
      · cases aO.symm.trans e; exact absurd rfl (h1 _ _)
  have low : ∀ {b : Addr} {o : Obj}, s.heap.get? b = some o → H b = none → (hidT s.heap H).get? b = some o := fun e n => hidT_get e n
  have lowN : ∀ {b : Addr} {m : Str → Option Value}, s.heap.Ns b m → (hidT s.heap H).Ns b m := fun {b m} ⟨o, es, ep, e, d, r⟩ =>
    ⟨o, es, ep, low e (un1 e (fun ws n z => by rw [d] at z; cases z) fun z => by rw [d] at z; cases z), d, r⟩
  have lowK : K.In (hidT s.heap H) := fun b o e => low (kx b o e) (by
    cases q : H b with
    | none => rfl
    | some u =>
      rcases Hc b u q with ⟨z, _⟩ | ⟨_, rfl, n, _⟩
      · obtain ⟨p, hp, rfl⟩ := ofT b z
        cases (tN p hp).symm.trans e
      · cases n.symm.trans e)
  have TB : ∀ p ∈ cs, TabB (hidT s.heap H) mg p.1 p.2 := fun p hp => by
    refine ⟨?_, ?_, fun z => ?_⟩
    · obtain ⟨o, us, f1, f2, f3, f4, f5, f6, f7, e1, r1, r2, r3, r4, r⟩ := cH p hp
      refine ⟨o, us, f1, f2, f3, f4, f5, f6, f7, low e1 (un1 e1 (fun ws n z => ?_) fun z => ?_), r1, r2, r3, r4, r⟩
      · rw [r2] at z; cases z
      · rw [r2] at z
        cases z
        simp at r3
    · obtain ⟨b, ob, b1, b2, b3, b4, b5, b6⟩ := bm
      refine ⟨b, ob, b1, b2, fun q => ?_, fun q => ?_, low b3 (un1 b3 (fun ws n z => ?_) fun z => ?_), b4, b5, b6⟩
      · obtain ⟨o, es, ep, e, d, _⟩ := gx
        rw [q, e] at b3
        cases b3
        rw [d] at b6; cases b6
      · rw [q, tO p hp] at b3
        cases b3
        cases b6
      · rw [b6] at z; cases z
      · rw [b6] at z; cases z
    · obtain ⟨o, es, ep, e, d, _⟩ := gx
      rw [z, tO p hp] at e
      cases e
      cases d
  have e0 : Env0 P w K mg (hidT s.heap H) callerA [] s H := ⟨rfl, ⟨lowK, lowN gx, ⟨mb, lowN bx, bb⟩, let ⟨mc, l1, l2⟩ := lim; ⟨mc, lowN l1, l2⟩⟩, fun b o e => of_hidT e, Nat.le_of_eq (hidT_size _ _), trivial, fun b z => absurd (show b ∈ ([] : List Addr) from z) (by simp), HO, .of_eq ge⟩
  have hO : OnlyT (cs.map (·.2)) H := fun b => by
    cases q : H b with
    | none => exact .inl rfl
    | some u =>
      rcases Hc b u q with ⟨z, _⟩ | ⟨_, _, _, rfl⟩
      · exact .inr (.inl (hts ▸ z))
      · exact .inr (.inr ⟨_, _, rfl⟩)
  refine codeAny_mono ((F _ lowK (lowN gx) TB).run callerA [] s H ⟨[.ref a], []⟩ [.ref a] [.ref a] _ _ hr e0 (bd s (.ref a)) (.cons rfl .nil) (hsp H hO (fun p hp => HT _ (inT p hp)) HL)) fun r s' q => ?_
  match r, q with
  | .error e, q => exact (hx H e s' q).elim
  | .ok .next, q => exact (show False from q).elim
  | .ok .brk, q => exact (show False from q).elim
  | .ok .cont, q => exact (show False from q).elim
  | .ok (.ret u), q =>
    obtain ⟨v, H', o1, o2, un, hok', rr, ev⟩ := q
    cases (show v = .bl true from ev)
    obtain rfl : u = Value.bool true := rr
    have old : ∀ b o, b ∉ ts → s.heap.get? b = some o → s'.heap.get? b = some o := fun b o nb e => by
      cases q : H b with
      | none => exact un.keep b o e q (fun z => absurd (show b ∈ ([] : List Addr) from z) (by simp)) (by simp)
      | some u =>
        rcases Hc b u q with ⟨z, _⟩ | ⟨_, rfl, _, rfl⟩
        · exact absurd z nb
        · have z := un.frzs b _ _ q
          have z2 := (hok' b _ z).1
          rw [aO] at e
          cases e
          exact z2
    have tab : ∀ b ∈ ts, ∃ more : Array Value, s'.heap.get? b = some { cls := .none, data := .fields more } := fun b hb => by
      obtain ⟨more, z⟩ := un.tbls b #[] (HT b hb)
      exact ⟨_, hok' b _ z⟩
    refine ⟨rfl, ⟨fun b o e => ?_, fun b o e => ?_⟩, o1, o2⟩
    · by_cases hb : b ∈ ts
      · obtain ⟨p, hp, rfl⟩ := ofT b hb
        obtain ⟨more, z⟩ := tab _ hb
        have q := tO p hp
        cases q.symm.trans e
        exact .inr (.inl ⟨((cH p hp).tab q).isCodeTable, rfl, #[], more, rfl, by rw [Array.empty_append]; exact z⟩)
      · exact .inl (old b o hb e)
    · by_cases hb : b ∈ ts
      · obtain ⟨more, z⟩ := tab _ hb
        exact ⟨_, z⟩
      · exact ⟨o, old b o hb e⟩
/-- the law's promise, tables tracked -/
def spLawT (K : PySem.W.Frag) (cs : List (Addr × Addr)) : Sp := fun vs H Q _ => ∃ (a : Addr) (ns : List Int), vs = [.ref a] ∧ OnlyT (cs.map (·.2)) H ∧ (∀ p ∈ cs, H p.2 = some (.tbl #[])) ∧ SqL K H a (ns.map V.int) ∧ ∀ H', Q (.bl true) H'
/-- what is shown of the law's def at the head's heap -/
def LawAtT (l : PySem.W.OpenLaw) (w : World) (K : PySem.W.Frag) (k : Nat) (mg : Str → Option Value) (fa : Addr) (h : Heap) : Prop :=
  ∃ (fd : FuncData) (cs : List (Addr × Addr)), (∀ p ∈ cs, h.get? p.2 = some tabO) ∧ (∀ p ∈ cs, K.lookup p.2 = none) ∧ (∀ p ∈ cs, PySem.W.CodeHd h p.1 p.2) ∧ (∀ (s : Shared) (u : Value), BindsTo s fd ⟨[u], []⟩ [("script", u)]) ∧
    ∀ base : Heap, K.In base → base.Ns mainGlobals mg → (∀ p ∈ cs, TabB base mg p.1 p.2) → FnOk l.prog w K mg base (L2N.CX l.prog w) k fa fd ["script"] (spLawT K cs)
theorem walk_T {l : PySem.W.OpenLaw} {n k : Nat} {q : Program} {loose : List Str} {XP : (Str → Option Value) → Heap → Prop} {YP : World → Heap → Prop} {d : DefRec} {K : Params → PySem.W.Frag}
    (hn : l.most = some n) (hn2 : n ≤ sizeLine) (hdf : d.params.defaults = []) (hr : Room k callerA) (hY : ∀ (w : World) (h : Heap), YP w h → (K w.params).In h)
    (F : ∀ (w : World) (mg : Str → Option Value) (fa : Addr) (h : Heap), YP w h → (K w.params).In h → h.Ns mainGlobals mg → mg d.name = some (.ref fa) → LawAtT l w (K w.params) k mg fa h) :
    PySem.W.WalkO q loose XP YP l.row.toRowW d [] (fun f vs => PySem.call f vs) := by
  refine Att.attach_callB hn hdf fun w s0 s1 mg mb fa o pm cd doc a vs ns G Y ho hd hcd hmg aO ia hl hbits hg => ?_
  have kx := hY w _ Y
  obtain ⟨fd, cs, t1, t2, t3, t4, t5⟩ := F w mg fa _ Y kx G.T.g hmg
  exact law_tabs kx G.T.g G.T.b G.T.builtins G.T.nolimit hg t1 t2 t3 G.T.bmain aO ia (Nat.le_trans hl hn2) hr t5 t4 (fun H h1 h2 h3 => ⟨a, ns, rfl, h1, h2, h3, fun _ => rfl⟩) fun H e s' z => cx_none z
/-- the slots at the law's start -/
abbrev lawρ (N : List Str) (ns : List Int) : List Sl := .scr ns :: List.replicate (N.length - 1) .no
/-- what is known at the law's start, and as long as nothing is owned and nothing is kept but the script -/
structure LawS (S : Sx) : Prop where
  frz : ∀ a o, S.F a = some o → ∃ u xs, o = .frz u (.lst xs)
  un : ∀ (j : Nat) (s : Sl), S.ρ[j]? = some s → s.owned = false
theorem dlawT {P : Program} {w : World} {K : PySem.W.Frag} {mg : Str → Option Value} {base : Heap} {st : Stmt} {f : Addr} {N : List Str} {k : Nat} {tl : TSd} {T : Tz} {cs : List (Addr × Addr)} {oc kV doc pm cdv ct : Value} {od an : Option Addr} {osl : Array (Option Value)}
    (lk : K.lookup f = some ⟨oc, od, .func (PySem.W.fnOf "law" "law" (defArgs st) (defBody st) (defScope st) .none kV doc pm an cdv ct), osl⟩) (hcd : PySem.W.codeIn K cdv "law" = true) (Sc : FnScope N ["script"] (defScope st))
    (hT : ∀ p ∈ T, ∃ q ∈ cs, q.2 = p.1)
    (hbd : ∀ (A : Around) (outer : List Env) (s : Shared) (H : Hp) (E : XK) (S0 : Sx) (W : WX), Cd.Wf ⟨cxD P w K mg base N "law" st f cdv A outer s H E, T, S0, W, fun _ _ => False, k⟩ →
      ∀ (S : Sx) (E' : Ed) (D : Ends), Ok K T S → Go S0 S → LawS S → tl E' S.ρ →
        Endd ⟨cxD P w K mg base N "law" st f cdv A outer s H E, T, S0, W, fun _ _ => False, k⟩ S E' D → wSs (cxD P w K mg base N "law" st f cdv A outer s H E) (defBody st) D S.σ S.H)
    (law : ∀ ns : List Int, tl lawEd (lawρ N ns)) :
    FnOk P w K mg base (L2N.CX P w) (k + 1) f (PySem.W.fnOf "law" "law" (defArgs st) (defBody st) (defScope st) .none kV doc pm an cdv ct) ["script"] (spLawT K cs) := by
  refine fn_of lk hcd Sc (fun vs H Q E h => ?_) fun A outer s H vs Q E hr h => ?_
  · obtain ⟨a, ns, rfl, _⟩ := h
    rfl
  · obtain ⟨a, ns, rfl, hO, hH, hS, hq⟩ := h
    refine ⟨wSs _ (defBody st), pss_w, ?_⟩
    let S0 : Sx := ⟨noT H, lawρ N ns, L2.start N [.ref a], H⟩
    have wf : Cd.Wf ⟨cxD P w K mg base N "law" st f cdv A outer s H E, T, S0, fun cls d _ H => E cls d H, fun _ _ => False, k⟩ := ⟨L2N.takes_of rfl rfl rfl rfl, hr, rfl, Sc.nd, PassesOwn.leaving, fun _ _ _ _ z => z.elim⟩
    have slots : ∀ (j : Nat) (t : Sl), (lawρ N ns)[j]? = some t → (j = 0 ∧ t = .scr ns) ∨ t = .no := fun j t h => by
      cases j with
      | zero => left; simpa using h.symm
      | succ j =>
        right
        have h : (List.replicate (N.length - 1) Sl.no)[j]? = some t := by simpa using h
        rw [List.getElem?_replicate] at h
        split at h
        · exact (Option.some.inj h).symm
        · cases h
    have hF : ∀ b o, noT H b = some o → ∃ u xs, o = .frz u (.lst xs) := fun b o h => by
      obtain ⟨h1, h2⟩ := noT_some h
      rcases hO b with z | z | ⟨u, xs, z⟩
      · rw [z] at h1; cases h1
      · obtain ⟨p, hp, e⟩ := List.mem_map.mp z
        rw [← e, hH p hp] at h1
        cases h1
        exact absurd rfl (h2 _)
      · rw [z] at h1
        cases h1
        exact ⟨u, xs, rfl⟩
    have hS' : SqL K (noT H) a (ns.map V.int) := by
      rcases hS with (z | ⟨o, z⟩) | z
      · exact .inl (.inl (noT_of z fun _ q => by cases q))
      · exact .inl (.inr ⟨o, noT_of z fun _ q => by cases q⟩)
      · exact .inr z
    have ok0 : Ok K T S0 := by
      refine ⟨fun a o h => (noT_some h).1, fun p hp => ?_, ?_, fun j t h => ?_, fun i j t u b h1 h2 w1 w2 _ _ => ?_⟩
      · obtain ⟨q, hq1, e⟩ := hT p hp
        exact TabS.nil (by rw [← e]; exact hH q hq1)
      · show (Sl.scr ns :: List.replicate (N.length - 1) Sl.no).length = (L2.start N [V.ref a]).length
        unfold L2.start
        simp
      · rcases slots j t h with ⟨rfl, rfl⟩ | rfl
        · exact ⟨a, rfl, hS'⟩
        · trivial
      · rcases slots i t h1 with ⟨_, rfl⟩ | rfl
        · cases w1
        · cases w1
    refine hbd A outer s H E S0 _ wf S0 lawEd _ ok0 (Go.refl _) ⟨hF, fun j t h => ?_⟩ (law ns) ⟨fun _ z _ _ => (show False from z).elim, fun _ z _ _ => (show False from z).elim, fun _ z _ _ => (show False from z).elim, fun r v S2 e _ _ hv => ?_⟩
    · rcases slots j t h with ⟨_, rfl⟩ | rfl <;> rfl
    · have e : r = .val (.bl true) := e
      subst e
      have hv : Rp K S2.F v (.bl true) := hv
      cases hv
      exact hq _
/-- the loop over the bags first, then the rest -/
theorem law_for {C : Cd} {st0 : Stmt} {rest : List Stmt} {is ib : Nat} {m : Int} {tl tr : TSd}
    (h1 : ∀ (S : Sx) (E : Ed) (D : Ends), Ok C.X.K C.T S → Go C.S0 S → (∀ a o, S.F a = some o → ∃ u xs, o = .frz u (.lst xs)) → (∀ (j : Nat) (s : Sl), S.ρ[j]? = some s → s.owned = false) → rBags is ib m tl E S.ρ → Endd C S E D → wS C.X st0 D S.σ S.H)
    (h2 : PSsd C rest tr) (c : C.Wf) (S : Sx) (E : Ed) (D : Ends) (ok : Ok C.X.K C.T S) (g0 : Go C.S0 S) (l : LawS S) (h : rSeq (rBags is ib m tl) tr E S.ρ) (k : Endd C S E D) : wSs C.X (st0 :: rest) D S.σ S.H := by
  refine wSs.of (pss_cons ps_w pss_w) ?_
  refine h1 S { E with nx := tr E } { D with nx := fun σ H => wSs C.X rest D σ H } ok g0 l.frz l.un h ⟨fun S' q ok' g' => ?_, k.bk, k.ct, k.rt⟩
  exact h2 c S' E D ok' (g0.trans g') q (k.go g')
end DL
/-! more built-ins: max and min of one, sorted, list(range), op= -/
namespace DL
open PySem PySem.Spec PyProof.Rows L2
section
variable {C : Cd}
/-- ints, in a list or a tuple -/
def intsOf (ns : List Int) (d : D) : Prop := d = .lst (ns.map .int) ∨ d = .tup (ns.map .int)
def max1D : DCl := fun ds Q => ∃ (d : D) (ns : List Int), ds = [d] ∧ intsOf ns d ∧ 0 < ns.length ∧ ∀ m, m ∈ ns → (∀ y ∈ ns, y ≤ m) → Q (.val (.int m))
def min1D : DCl := fun ds Q => ∃ (d : D) (ns : List Int), ds = [d] ∧ intsOf ns d ∧ 0 < ns.length ∧ ∀ m, m ∈ ns → (∀ y ∈ ns, m ≤ y) → Q (.val (.int m))
theorem fold_max : ∀ (ns : List Int) (n : Int), ns.foldl max n ∈ n :: ns ∧ ∀ y ∈ n :: ns, y ≤ ns.foldl max n
  | [], n => ⟨by simp, fun y hy => by simp at hy; simp [hy]⟩
  | a :: ns, n => by
    obtain ⟨h1, h2⟩ := fold_max ns (max n a)
    refine ⟨?_, fun y hy => ?_⟩
    · show ns.foldl max (max n a) ∈ _
      rcases List.mem_cons.mp h1 with e | e
      · rw [e]
        rcases Int.le_total n a with l | l
        · rw [Int.max_eq_right l]; simp
        · rw [Int.max_eq_left l]; simp
      · exact List.mem_cons_of_mem _ (List.mem_cons_of_mem _ e)
    · show y ≤ ns.foldl max (max n a)
      rcases List.mem_cons.mp hy with rfl | hy
      · exact Int.le_trans (Int.le_max_left _ a) (h2 _ List.mem_cons_self)
      · rcases List.mem_cons.mp hy with rfl | hy
        · exact Int.le_trans (Int.le_max_right n _) (h2 _ List.mem_cons_self)
        · exact h2 y (List.mem_cons_of_mem _ hy)
theorem fold_min : ∀ (ns : List Int) (n : Int), ns.foldl min n ∈ n :: ns ∧ ∀ y ∈ n :: ns, ns.foldl min n ≤ y
  | [], n => ⟨by simp, fun y hy => by simp at hy; simp [hy]⟩
  | a :: ns, n => by
    obtain ⟨h1, h2⟩ := fold_min ns (min n a)
    refine ⟨?_, fun y hy => ?_⟩
    · show ns.foldl min (min n a) ∈ _
      rcases List.mem_cons.mp h1 with e | e
      · rw [e]
        rcases Int.le_total n a with l | l
        · rw [Int.min_eq_left l]; simp
        · rw [Int.min_eq_right l]; simp
      · exact List.mem_cons_of_mem _ (List.mem_cons_of_mem _ e)
    · show ns.foldl min (min n a) ≤ y
      rcases List.mem_cons.mp hy with rfl | hy
      · exact Int.le_trans (h2 _ List.mem_cons_self) (Int.min_le_left _ a)
      · rcases List.mem_cons.mp hy with rfl | hy
        · exact Int.le_trans (h2 _ List.mem_cons_self) (Int.min_le_right n _)
        · exact h2 y (List.mem_cons_of_mem _ hy)
theorem dpAll_ints {K : PySem.W.Frag} {H : Hp} : ∀ ns : List Int, DpAll K H (ns.map V.int) (ns.map PyData.int)
  | [] => .nil
  | n :: ns => .cons (.int n) (dpAll_ints ns)
theorem alike_intsAll (ns : List Int) : PySem.W.AlikeAll (ns.map PyData.int) := by
  refine ⟨fun a ha b hb => ?_, fun a ha => ?_⟩
  · obtain ⟨x, _, rfl⟩ := List.mem_map.mp ha
    obtain ⟨y, _, rfl⟩ := List.mem_map.mp hb
    rfl
  · obtain ⟨x, _, rfl⟩ := List.mem_map.mp ha
    intro z
    cases z
/-- max(t), min(t) of a tuple of ints -/
theorem cr_maxT {X : Cx} (hc : X.calm = true) (hu : X.A.units + 1 < cLine) : CallR X (.builtin "max") (fun vs H Q => ∃ (a : Addr) (n : Int) (ns : List Int), vs = [V.ref a] ∧ SqT X.K H a ((n :: ns).map V.int) ∧ Q (.int (ns.foldl max n)) H) := by
  intro pins s σ H vs us Q I r h
  obtain ⟨a, n, ns, rfl, hs, q⟩ := h
  obtain ⟨its, rv, ht, _⟩ := I.tuple hs
  rw [Vals.ref1 r]
  obtain ⟨as, hr⟩ := Dp.readsAll I ((n :: ns).map PyData.int) _ its (dpAll_ints (n :: ns)) rv
  refine PySem.W.max_tuple_data (x := .int n) (xs := ns.map .int) (I.ok.hd hc) ht (by simpa using hr) (alike_intsAll (n :: ns)) ?_ fun i v h' tk bs hv rd hk => ?_
  · have := PySem.W.depth_ints (n :: ns)
    rw [List.map_cons] at this
    rw [this]; exact hu
  · rw [PySem.W.maxD_ints] at rd
    cases rd
    exact ⟨.int _, H, I.kept hk, ⟨_, rfl⟩, q⟩
/-- the same of a minimum -/
theorem cr_minT {X : Cx} (hc : X.calm = true) (hu : X.A.units + 1 < cLine) : CallR X (.builtin "min") (fun vs H Q => ∃ (a : Addr) (n : Int) (ns : List Int), vs = [V.ref a] ∧ SqT X.K H a ((n :: ns).map V.int) ∧ Q (.int (ns.foldl min n)) H) := by
  intro pins s σ H vs us Q I r h
  obtain ⟨a, n, ns, rfl, hs, q⟩ := h
  obtain ⟨its, rv, ht, _⟩ := I.tuple hs
  rw [Vals.ref1 r]
  obtain ⟨as, hr⟩ := Dp.readsAll I ((n :: ns).map PyData.int) _ its (dpAll_ints (n :: ns)) rv
  refine PySem.W.min_tuple_data (x := .int n) (xs := ns.map .int) (I.ok.hd hc) ht (by simpa using hr) (alike_intsAll (n :: ns)) ?_ fun i v h' tk bs hv rd hk => ?_
  · have := PySem.W.depth_ints (n :: ns)
    rw [List.map_cons] at this
    rw [this]; exact hu
  · rw [PySem.W.minD_ints] at rd
    cases rd
    exact ⟨.int _, H, I.kept hk, ⟨_, rfl⟩, q⟩
theorem c_max1 : CallD C (.builtin "max") max1D := by
  rintro c S vs ds Q Q' ok hs ⟨d, ns, rfl, hd, hn, h⟩ k
  obtain ⟨v, rfl, hv⟩ := hs.one
  rcases hd with rfl | rfl
  · obtain ⟨p, us, rfl, h1, r⟩ := hv.lst ok
    have e := r.ints
    subst e
    exact wC.of (cr_max c.calm) ⟨p, ns, rfl, SqL.of h1, hn, fun m h1 h2 => fin_val ok k (h m h1 h2) (.int _)⟩
  · obtain ⟨p, us, rfl, _, h1, r⟩ := hv.tup ok
    have e := r.ints
    subst e
    cases ns with
    | nil => simp at hn
    | cons n ns =>
      obtain ⟨m1, m2⟩ := fold_max ns n
      exact wC.of (cr_maxT c.calm (units1 c)) ⟨p, n, ns, rfl, sqt_rd h1, fin_val ok k (h _ m1 m2) (.int _)⟩
theorem c_min1 : CallD C (.builtin "min") min1D := by
  rintro c S vs ds Q Q' ok hs ⟨d, ns, rfl, hd, hn, h⟩ k
  obtain ⟨v, rfl, hv⟩ := hs.one
  rcases hd with rfl | rfl
  · obtain ⟨p, us, rfl, h1, r⟩ := hv.lst ok
    have e := r.ints
    subst e
    exact wC.of (cr_min c.calm) ⟨p, ns, rfl, SqL.of h1, hn, fun m h1 h2 => fin_val ok k (h m h1 h2) (.int _)⟩
  · obtain ⟨p, us, rfl, _, h1, r⟩ := hv.tup ok
    have e := r.ints
    subst e
    cases ns with
    | nil => simp at hn
    | cons n ns =>
      obtain ⟨m1, m2⟩ := fold_min ns n
      exact wC.of (cr_minT c.calm (units1 c)) ⟨p, n, ns, rfl, sqt_rd h1, fin_val ok k (h _ m1 m2) (.int _)⟩
end
end DL
/-! data compared: shapes, equality -/
namespace DL
open PySem PySem.Spec PyProof.Rows L2
/-- data that may be compared, at most k deep -/
structure Shd (k : Nat) (d : D) : Prop where
  c : d.py.canLay0 = true
  h : d.py.depth ≤ k
theorem Shd.shaped {d : D} (h : Shd 64 d) : SeqAt.shaped d.py = true := by
  unfold SeqAt.shaped
  rw [h.c, decide_eq_true h.h]; rfl
theorem Shd.mono {k l : Nat} {d : D} (h : Shd k d) (hl : k ≤ l) : Shd l d := ⟨h.c, Nat.le_trans h.h hl⟩
theorem Shd.non {k : Nat} : Shd k .non := ⟨rfl, Nat.zero_le _⟩
theorem Shd.bl {k : Nat} {b : Bool} : Shd k (.bl b) := ⟨rfl, Nat.zero_le _⟩
theorem Shd.int {k : Nat} {b : Int} : Shd k (.int b) := ⟨rfl, Nat.zero_le _⟩
theorem Shd.str {k : Nat} {x : Str} (h : (D.str x).py.canLay0 = true) : Shd k (.str x) := ⟨h, Nat.zero_le _⟩
theorem shd_all {k : Nat} : ∀ {xs : List D}, (∀ d ∈ xs, Shd k d) → PyData.canLayAll0 (D.pys xs) = true ∧ PyData.depthAll (D.pys xs) ≤ k
  | [], _ => ⟨rfl, Nat.zero_le _⟩
  | d :: xs, h => by
    obtain ⟨h1, h2⟩ := shd_all fun d hd => h d (List.mem_cons_of_mem _ hd)
    have h3 := h d List.mem_cons_self
    refine ⟨?_, ?_⟩
    · show (d.py.canLay0 && PyData.canLayAll0 (D.pys xs)) = true
      rw [h3.c, h1]; rfl
    · show max d.py.depth (PyData.depthAll (D.pys xs)) ≤ k
      exact Nat.max_le.mpr ⟨h3.h, h2⟩
theorem Shd.tup {k : Nat} {xs : List D} (h : ∀ d ∈ xs, Shd k d) : Shd (k + 1) (.tup xs) :=
  let ⟨h1, h2⟩ := shd_all h
  ⟨h1, Nat.succ_le_succ h2⟩
theorem Shd.lst {k : Nat} {xs : List D} (h : ∀ d ∈ xs, Shd k d) : Shd (k + 1) (.lst xs) :=
  let ⟨h1, h2⟩ := shd_all h
  ⟨h1, Nat.succ_le_succ h2⟩
/-! ### equality: where no truth is in it, data is equal just where it is the same -/
mutual
def nb : D → Bool
  | .bl _ => false
  | .tup xs => nbs xs
  | .lst xs => nbs xs
  | .tux _ _ => false
  | .dic _ _ => false
  | .dik _ _ => false
  | .obj _ _ _ => false
  | _ => true
def nbs : List D → Bool
  | [] => true
  | x :: xs => nb x && nbs xs
end
mutual
theorem eqv_nb : ∀ (d e : D), nb d = true → nb e = true → (PyData.eqv d.py e.py = true ↔ d = e)
  | .non, .non, _, _ => by simp [D.py, PyData.eqv]
  | .non, .int _, _, _ => by simp [D.py, PyData.eqv]
  | .non, .str _, _, _ => by simp [D.py, PyData.eqv]
  | .non, .tup _, _, _ => by simp [D.py, PyData.eqv]
  | .non, .lst _, _, _ => by simp [D.py, PyData.eqv]
  | .int _, .non, _, _ => by simp [D.py, PyData.eqv]
  | .int _, .int _, _, _ => by simp [D.py, PyData.eqv]
  | .int _, .str _, _, _ => by simp [D.py, PyData.eqv]
  | .int _, .tup _, _, _ => by simp [D.py, PyData.eqv]
  | .int _, .lst _, _, _ => by simp [D.py, PyData.eqv]
  | .str _, .non, _, _ => by simp [D.py, PyData.eqv]
  | .str _, .int _, _, _ => by simp [D.py, PyData.eqv]
  | .str _, .str _, _, _ => by simp [D.py, PyData.eqv]
  | .str _, .tup _, _, _ => by simp [D.py, PyData.eqv]
  | .str _, .lst _, _, _ => by simp [D.py, PyData.eqv]
  | .tup _, .non, _, _ => by simp [D.py, PyData.eqv]
  | .tup _, .int _, _, _ => by simp [D.py, PyData.eqv]
  | .tup _, .str _, _, _ => by simp [D.py, PyData.eqv]
  | .tup _, .lst _, _, _ => by simp [D.py, PyData.eqv]
  | .tup xs, .tup ys, h1, h2 => by
    have := eqv_nbs xs ys (by simpa [nb] using h1) (by simpa [nb] using h2)
    simpa [D.py, PyData.eqv] using this
  | .lst _, .non, _, _ => by simp [D.py, PyData.eqv]
  | .lst _, .int _, _, _ => by simp [D.py, PyData.eqv]
  | .lst _, .str _, _, _ => by simp [D.py, PyData.eqv]
  | .lst _, .tup _, _, _ => by simp [D.py, PyData.eqv]
  | .lst xs, .lst ys, h1, h2 => by
    have := eqv_nbs xs ys (by simpa [nb] using h1) (by simpa [nb] using h2)
    simpa [D.py, PyData.eqv] using this
  | .bl _, _, h, _ => by simp [nb] at h
  | .non, .bl _, _, h => by simp [nb] at h
  | .int _, .bl _, _, h => by simp [nb] at h
  | .str _, .bl _, _, h => by simp [nb] at h
  | .tup _, .bl _, _, h => by simp [nb] at h
  | .lst _, .bl _, _, h => by simp [nb] at h
  | .tux _ _ , _, h, _ => by simp [nb] at h
  | .dic _ _ , _, h, _ => by simp [nb] at h
  | .dik _ _ , _, h, _ => by simp [nb] at h
  | .obj _ _ _ , _, h, _ => by simp [nb] at h
  | .non , .tux _ _ , _, h => by simp [nb] at h
  | .non , .dic _ _ , _, h => by simp [nb] at h
  | .non , .dik _ _ , _, h => by simp [nb] at h
  | .non , .obj _ _ _ , _, h => by simp [nb] at h
  | .int _, .tux _ _ , _, h => by simp [nb] at h
  | .int _, .dic _ _ , _, h => by simp [nb] at h
  | .int _, .dik _ _ , _, h => by simp [nb] at h
  | .int _, .obj _ _ _ , _, h => by simp [nb] at h
  | .str _, .tux _ _ , _, h => by simp [nb] at h
  | .str _, .dic _ _ , _, h => by simp [nb] at h
  | .str _, .dik _ _ , _, h => by simp [nb] at h
  | .str _, .obj _ _ _ , _, h => by simp [nb] at h
  | .tup _, .tux _ _ , _, h => by simp [nb] at h
  | .tup _, .dic _ _ , _, h => by simp [nb] at h
  | .tup _, .dik _ _ , _, h => by simp [nb] at h
  | .tup _, .obj _ _ _ , _, h => by simp [nb] at h
  | .lst _, .tux _ _ , _, h => by simp [nb] at h
  | .lst _, .dic _ _ , _, h => by simp [nb] at h
  | .lst _, .dik _ _ , _, h => by simp [nb] at h
  | .lst _, .obj _ _ _ , _, h => by simp [nb] at h
theorem eqv_nbs : ∀ (ds es : List D), nbs ds = true → nbs es = true → (PyData.eqvAll (D.pys ds) (D.pys es) = true ↔ ds = es)
  | [], [], _, _ => by simp [D.pys, PyData.eqvAll]
  | [], _ :: _, _, _ => by simp [D.pys, PyData.eqvAll]
  | _ :: _, [], _, _ => by simp [D.pys, PyData.eqvAll]
  | d :: ds, e :: es, h1, h2 => by
    have h1 : nb d = true ∧ nbs ds = true := by simpa [nbs] using h1
    have h2 : nb e = true ∧ nbs es = true := by simpa [nbs] using h2
    have q1 := eqv_nb d e h1.1 h2.1
    have q2 := eqv_nbs ds es h1.2 h2.2
    simp [D.pys, PyData.eqvAll, q1, q2]
end
theorem nbs_all : ∀ {xs : List D}, (∀ d ∈ xs, nb d = true) → nbs xs = true
  | [], _ => rfl
  | d :: xs, h => by
    show (nb d && nbs xs) = true
    rw [h d List.mem_cons_self, nbs_all fun d hd => h d (List.mem_cons_of_mem _ hd)]; rfl
/-- a test of two data that are the same, or not -/
theorem eqv_true {d e : D} (h1 : nb d = true) (h2 : nb e = true) (h : d = e) : PyData.eqv d.py e.py = true := (eqv_nb d e h1 h2).mpr h
theorem eqv_false {d e : D} (h1 : nb d = true) (h2 : nb e = true) (h : d ≠ e) : PyData.eqv d.py e.py = false := by
  cases q : PyData.eqv d.py e.py with
  | false => rfl
  | true => exact absurd ((eqv_nb d e h1 h2).mp q) h
end DL
/-! list(range(..)), range(a, b, -1), op=, sorted of ints, tuples compared -/
namespace DL
open PySem PySem.Spec PyProof.Rows L2
section
variable {C : Cd} {a b cc e : Expr} {ta tb tc te : TEd} {pos p p2 : Pos}
/-- the ints from i up to j -/
def rgD (i j : Int) : List D := (List.range (j - i).toNat).map fun (k : Nat) => D.int (i + (k : Int))
theorem rgD_rp {K : PySem.W.Frag} {F : Hp} (i j : Int) : RpL K F (rgV i j) (rgD i j) := by
  have h := RpL.of_ints (K := K) (F := F) ((List.range (j - i).toNat).map fun (k : Nat) => i + (k : Int))
  rw [List.map_map, List.map_map] at h
  exact h
def rgO (Q : Rv → List Sl → Prop) (ρ : List Sl) : Option D → Option D → Prop
  | some (.int i), some (.int j) => RgOk i j ∧ Q (.new (rgD i j)) ρ
  | _, _ => False
theorem rgO_some {Q : Rv → List Sl → Prop} {ρ : List Sl} {x y : Option D} (h : rgO Q ρ x y) : ∃ i j, x = some (.int i) ∧ y = some (.int j) ∧ RgOk i j ∧ Q (.new (rgD i j)) ρ := by
  unfold rgO at h
  split at h
  · exact ⟨_, _, rfl, rfl, h.1, h.2⟩
  · exact h.elim
def rLRg (ta tb : TEd) : TEd := fun ρ Q => ta ρ fun x ρ1 => tb ρ1 fun y ρ2 => rgO Q ρ2 (rd ρ2 x) (rd ρ2 y)
theorem d_listRg2 (hg : Gl C.X "list") (hm : C.X.mg "list" = none) (hgr : Gl C.X "range") (hmr : C.X.mg "range" = none) (ha : PEd C a ta) (hb : PEd C b tb)
    (na : starEach [a, b] C.X.env = (false, eval a C.X.env) :: starEach [b] C.X.env := by rfl) (nb : starEach [b] C.X.env = (false, eval b C.X.env) :: starEach [] C.X.env := by rfl) (hp : (backTo p2 (starEach [b] C.X.env)).any (·.1) = false := by rfl)
    (ne : starEach [.Call (.Name "range" p) [a, b] [] p2] C.X.env = (false, eval (.Call (.Name "range" p) [a, b] [] p2) C.X.env) :: starEach [] C.X.env := by rfl) {p3 : Pos} :
    PEd C (.Call (.Name "list" p3) [.Call (.Name "range" p) [a, b] [] p2] [] pos) (rLRg ta tb) := by
  intro c S Q Q' ok g0 h k
  refine wE.of (pe_listRg c.calm hg hm (prg_2 hgr hmr pe_w pe_w na nb hp) ne) ?_
  refine ha c S _ _ ok g0 h fun x v F1 ρ1 H1 h1 ok1 g1 r1 => ?_
  obtain ⟨F1', ok1', g1', _, gF, r1'⟩ := settle ok1 g1 r1
  refine hb c (S.to F1' ρ1 H1) _ _ ok1' (g0.trans g1') h1 fun y u F2 ρ2 H2 h2 ok2 g2 r2 => ?_
  have r1'' := rvR.go (K := C.X.K) (S' := S.to F2 ρ2 H2) r1' g2 rfl
  obtain ⟨i, j, e1, e2, ok3, q⟩ := rgO_some h2
  rw [← rd_stl] at e1
  refine ⟨i, j, (ok2.rd r1'' e1).int, (ok2.rd (r2.start fun a z => g1'.dom a z) e2).int, ok3, ?_⟩
  exact fun l hl => fin_new (C := C) (S := S.to F2 ρ2 H2) (Q := fun r => Q r ρ2) ok2 (fun r w F3 H3 h3 ok3 g3 r3 => k r w F3 ρ2 H3 h3 ok3 ((g1'.trans g2).trans g3) (r3.start fun a z => (g1'.trans g2).dom a z)) q (rgD_rp i j) hl
theorem d_listRg1 (hg : Gl C.X "list") (hm : C.X.mg "list" = none) (hgr : Gl C.X "range") (hmr : C.X.mg "range" = none) (ha : PEd C a ta)
    (na : starEach [a] C.X.env = (false, eval a C.X.env) :: starEach [] C.X.env := by rfl)
    (ne : starEach [.Call (.Name "range" p) [a] [] p2] C.X.env = (false, eval (.Call (.Name "range" p) [a] [] p2) C.X.env) :: starEach [] C.X.env := by rfl) {p3 : Pos} :
    PEd C (.Call (.Name "list" p3) [.Call (.Name "range" p) [a] [] p2] [] pos) (rLRg (rC (.int 0)) ta) := by
  intro c S Q Q' ok g0 h k
  refine wE.of (pe_listRg c.calm hg hm (prg_1 hgr hmr pe_w na) ne) ?_
  refine ha c S _ _ ok g0 h fun y u F2 ρ2 H2 h2 ok2 g2 r2 => ?_
  obtain ⟨i, j, e1, e2, ok3, q⟩ := rgO_some h2
  cases e1
  refine ⟨j, (ok2.rd r2 e2).int, ok3, ?_⟩
  exact fun l hl => fin_new (C := C) (S := S.to F2 ρ2 H2) (Q := fun r => Q r ρ2) ok2 (fun r w F3 H3 h3 ok3 g3 r3 => k r w F3 ρ2 H3 h3 ok3 (g2.trans g3) (r3.start fun a z => g2.dom a z)) q (rgD_rp 0 j) hl
/-! ### range(a, b, -1) -/
def itC (i : Int) (n : Nat) : Its := ⟨n, fun k d => d = .int (i - (k : Int))⟩
theorem it_rngC {K : PySem.W.Frag} {T : Tz} {S : Sx} {i : Int} {n : Nat} : ItOk K T (itC i n) (Itc i (-1) n) S := fun S' ok g => by
  refine ⟨fun k hk => hk, Nat.le_refl _, fun k x H' hk y => ?_⟩
  obtain ⟨rfl, rfl⟩ := y
  exact ⟨S'.F, .int (i - (k : Int)), rfl, ok, Go.refl _, by rw [show i + ((k : Nat) : Int) * -1 = i - (k : Int) by omega]; exact .int _⟩
def rng3O (Q : Its → List Sl → Prop) (ρ : List Sl) : Option (List D) → Prop
  | some [.int i, .int j, .int c] => c = -1 ∧ (-(2 ^ 62) ≤ i ∧ i < 2 ^ 62 ∧ -(2 ^ 62) ≤ j ∧ j < 2 ^ 62) ∧ Q (itC i (i - j).toNat) ρ
  | _ => False
theorem rng3O_some {Q : Its → List Sl → Prop} {ρ : List Sl} {x : Option (List D)} (h : rng3O Q ρ x) : ∃ i j, x = some [.int i, .int j, .int (-1)] ∧ (-(2 ^ 62) ≤ i ∧ i < 2 ^ 62 ∧ -(2 ^ 62) ≤ j ∧ j < 2 ^ 62) ∧ Q (itC i (i - j).toNat) ρ := by
  unfold rng3O at h
  split at h
  · obtain ⟨rfl, h2, h3⟩ := h
    exact ⟨_, _, rfl, h2, h3⟩
  · exact h.elim
def iRn3 (ta : TAd) : TId := fun ρ Q => ta ρ fun rs ρ1 => rng3O Q ρ1 (rdL ρ1 rs)
theorem ShL.three {K : PySem.W.Frag} {S : Sx} {vs : List V} {d e g : D} (h : ShL K S vs [d, e, g]) : ∃ v w u, vs = [v, w, u] ∧ Shl K S v d ∧ Shl K S w e ∧ Shl K S u g := by
  cases vs with
  | nil => exact (show False from h).elim
  | cons v vs =>
    obtain ⟨w, u, rfl, h2, h3⟩ := ShL.two (show ShL K S vs [e, g] from h.2)
    exact ⟨v, w, u, rfl, h.1, h2, h3⟩
theorem di_rng3 {tg : Expr} (hg : Gl C.X "range") (hm : C.X.mg "range" = none) (ha : PEd C a ta) (hb : PEd C b tb) (hc : PEd C cc tc) (hs : starEach [a, b, cc] C.X.env = (false, eval a C.X.env) :: starEach [b, cc] C.X.env := by rfl) (hs2 : starEach [b, cc] C.X.env = (false, eval b C.X.env) :: starEach [cc] C.X.env := by rfl) (hs3 : starEach [cc] C.X.env = (false, eval cc C.X.env) :: starEach [] C.X.env := by rfl)
    (hpl : (backTo pos (starEach [b, cc] C.X.env)).any (·.1) = false := by rfl) :
    PId C tg (.Call (.Name "range" p) [a, b, cc] [] pos) (iRn3 (rCons ta (rCons tb (rCons tc rNil)))) := fun c S Q R' ok g0 h k => by
  refine wI.of (pi_range3 hg hm pa_w hs hpl) ?_
  refine (da_cons ha (da_cons hb (da_cons hc da_nil hs3) hs2) hs) c S _ _ ok g0 h fun rs vs F1 ρ1 H1 q1 ok1 g1 r1 hl => ?_
  obtain ⟨i, j, e1, ⟨b1, b2, b3, b4⟩, q⟩ := rng3O_some q1
  obtain ⟨v, w, u, rfl, hv, hw, hu⟩ := (ok1.rdL r1 e1).three
  exact ⟨i, j, -1, (i - j).toNat, by rw [hv.int, hw.int, hu.int], RgC.neg b1 b2 b3 b4, k _ _ F1 ρ1 H1 q ok1 g1 it_rngC⟩
/-! ### x op= e, of ints -/
def rAug (f : Int → Int → Int) (i : Nat) (te : TEd) : TSd := fun E ρ => ∃ x, ρ[i]? = some (.sh (.int x)) ∧ te ρ fun r ρ1 => ∃ y, rd ρ1 r = some (.int y) ∧ E.nx (ρ1.set i (.sh (.int (f x y))))
theorem ds_augI {op : Operator} {f : Int → Int → Int} (i : Nat) {x : Str} {pos' : Pos} (hp : PIp C.X op (ipI f)) (hi : C.X.N[i]? = some x) (hx : Loc C.X.env.scope x) (he : PEd C e te) (hf : C.X.fn x = true ∨ C.X.env.scope.names.lookup x = some .local := by first | exact .inl rfl | exact .inr rfl | assumption) :
    PSd C (.AugAssign (.Name x pos') op e pos) (rAug f i te) := fun c S E D ok g0 h k => by
  refine wS.of (ps_aug c.nd hi hx pe_w hp hf) ?_
  obtain ⟨a, ha, h⟩ := h
  obtain ⟨v, hv, rv⟩ := ok.slot i _ ha
  cases rv
  refine ⟨.int a, hv, ?_⟩
  refine he c S _ _ ok g0 h fun r w F1 ρ1 H1 ⟨y, e1, q⟩ ok1 g1 r1 => ?_
  have ew : w = .int y := (ok1.rd r1 e1).int
  refine ⟨a, y, rfl, ew, ?_⟩
  have ok2 := Ok.put (S := S.to F1 ρ1 H1) (i := i) (s := .sh (.int (f a y))) (v := .int (f a y)) ok1 ⟨_, rfl, .int _⟩ (fun z => by cases z)
  exact k.nx _ q ok2 (g1.trans (Go.put (S0 := S.to F1 ρ1 H1) (Go.refl _) (fun z => by cases z)))
theorem ds_aug_add (i : Nat) {x : Str} {pos' : Pos} (hi : C.X.N[i]? = some x) (hx : Loc C.X.env.scope x) (he : PEd C e te) (hf : C.X.fn x = true ∨ C.X.env.scope.names.lookup x = some .local := by first | exact .inl rfl | exact .inr rfl | assumption) :
    PSd C (.AugAssign (.Name x pos') .Add e pos) (rAug (fun i j => i + j) i te) := ds_augI i ip_add hi hx he hf
theorem ds_aug_sub (i : Nat) {x : Str} {pos' : Pos} (hi : C.X.N[i]? = some x) (hx : Loc C.X.env.scope x) (he : PEd C e te) (hf : C.X.fn x = true ∨ C.X.env.scope.names.lookup x = some .local := by first | exact .inl rfl | exact .inr rfl | assumption) :
    PSd C (.AugAssign (.Name x pos') .Sub e pos) (rAug (fun i j => i - j) i te) := ds_augI i ip_sub hi hx he hf
/-! ### xs[i] += e, of an owned list of ints -/
theorem get_list0 {X : Cx} : PGet X (fun o i H Q => ∃ p vs k x, o = .ref p ∧ i = .int k ∧ H p = some (.lst vs) ∧ 0 ≤ k ∧ k < 2 ^ 63 ∧ vs[k.toNat]? = some x ∧ Q x H) := by
  intro pins s σ H o i ov iv Q I ro ri h
  obtain ⟨p, vs, k, x, rfl, rfl, hp, h0, h1, hx, q⟩ := h
  cases ro
  obtain ⟨t, rfl⟩ := ri
  obtain ⟨its, rv, hl, _⟩ := I.list (SqL.of hp)
  obtain ⟨u, hu, ru⟩ := rv.get hx
  exact wpAny_getItem_list hl.isList h0 h1 (by simpa using hu) ⟨x, H, I, ru, q⟩
def rAugS (j : Nat) (ti te : TEd) : TSd := fun E ρ => isOw ρ[j]? = true ∧ ti ρ fun ix ρ1 => ∃ (i : Nat) (fl : Bool) (xs : List D) (a : Int), rd ρ1 ix = some (.int i) ∧ i < 16777216 ∧ ρ1[j]? = some (.ow fl xs) ∧ xs[i]? = some (.int a) ∧ te ρ1 fun r ρ2 => ∃ (b : Int) (fl2 : Bool) (ys : List D), rd ρ2 r = some (.int b) ∧ ρ2[j]? = some (.ow fl2 ys) ∧ i < ys.length ∧ E.nx (ρ2.set j (.ow fl2 (ys.set i (.int (a + b)))))
theorem ds_augS (j : Nat) {x : Str} {ie : Expr} {ti : TEd} {p0 p1 : Pos} (hN : C.X.N[j]? = some x) (hv : Vis C.X.env.scope x) (hi : PEd C ie ti) (he : PEd C e te)
    (ha : ∀ ov iv new, augStore ie ov iv new = (do holding [new, ov, iv] (setItem ov iv new); release [new, ov, iv] []; pure .next) := by intros; rfl)
    (hd : (x == ("__debug__" : Str)) = false := by decide) (hcd : (x == ("__classdict__" : Str)) = false := by decide) :
    PSd C (.AugAssign (.Subscript (.Name x p0) ie p1) .Add e pos) (rAugS j ti te) := fun c S E D ok g0 h k => by
  refine wS.of (ps_augS (pe_var hN hv hd hcd) pe_w get_list0 pe_w ip_add set_list ha) ?_
  obtain ⟨h0, h⟩ := h
  obtain ⟨ov, hov⟩ := isOw_at ok h0
  refine ⟨ov, hov, ?_⟩
  refine hi c S _ _ ok g0 h fun ix w F1 ρ1 H1 ⟨i, fl, xs, a, a1, a2, a3, a4, q⟩ ok1 g1 r1 => ?_
  obtain ⟨p, vs, b1, b2, b3, b4⟩ := ok1.slot j _ a3
  have b1 : S.σ[j]? = some (some (.ref p)) := b1
  rw [hov] at b1
  cases b1
  have ew : w = .int i := (ok1.rd r1 a1).int
  obtain ⟨z, hz, rz⟩ := b4.get a4
  cases rz
  have ei : ((i : Nat) : Int).toNat = i := by omega
  refine ⟨p, vs, i, .int a, rfl, ew, b3, by omega, by omega, by rw [ei]; exact hz, ?_⟩
  refine he c (S.to F1 ρ1 H1) _ _ ok1 (g0.trans g1) q fun r v F2 ρ2 H2 ⟨b, fl2, ys, c1, c2, c3, q2⟩ ok2 g2 r2 => ?_
  have ev : v = .int b := (ok2.rd r2 c1).int
  refine ⟨a, b, rfl, ev, ?_⟩
  obtain ⟨p2, us, d1, d2, d3, d4⟩ := ok2.slot j _ c2
  have d1 : S.σ[j]? = some (some (.ref p2)) := d1
  rw [hov] at d1
  cases d1
  refine ⟨p, us, i, i, rfl, ew, d3, ?_, ?_⟩
  · unfold ixN
    rw [if_pos (by omega), if_pos (by rw [d4.length]; omega), ei]
  · have okw : Ok C.X.K C.T ⟨F2, ρ2.set j (.ow fl2 (ys.set i (.int (a + b)))), S.σ, upd H2 p (.lst (us.set i (.int (a + b))))⟩ := Ok.write (S := S.to F2 ρ2 H2) ok2 c2 rfl hov rfl ⟨_, rfl, d4.set (.int _) i⟩
    have gw : Go (S.to F2 ρ2 H2) ⟨F2, ρ2.set j (.ow fl2 (ys.set i (.int (a + b)))), S.σ, upd H2 p (.lst (us.set i (.int (a + b))))⟩ := Go.write (S := S.to F2 ρ2 H2) c2 rfl hov rfl rfl (by rw [d3]; intro z; cases z)
    exact k.nx _ q2 okw ((g1.trans g2).trans gw)
/-! ### sorted, of ints -/
def sortedD : DCl := fun ds Q => ∃ ns : List Int, ds = [.lst (ns.map .int)] ∧ ∀ ns' : List Int, ns'.Perm ns → ns'.Pairwise (· ≤ ·) → Q (.new (ns'.map .int))
theorem c_sorted : CallD C (.builtin "sorted") sortedD := by
  rintro c S vs ds Q Q' ok hs ⟨ns, rfl, h⟩ k
  obtain ⟨v, rfl, hv⟩ := hs.one
  obtain ⟨p, us, rfl, h1, r⟩ := hv.lst ok
  have e := r.ints
  subst e
  exact wC.of cr_sortedI ⟨p, ns, rfl, SqL.of h1, fun ns' l hp hs hl => fin_new ok k (h ns' hp hs) (RpL.of_ints ns') hl⟩
theorem bt_sorted : bootBuiltins "sorted" = some (.builtin "sorted") := by decide +kernel
/-! ### tuples of ints compared by < -/
def lt2D : DOp
  | .int i, .int j, Q => Q (.val (.bl (decide (i < j))))
  | .tup xs, .tup ys, Q => ∃ ns ms : List Int, xs = ns.map .int ∧ ys = ms.map .int ∧ Q (.val (.bl (HT.lexLt ns ms)))
  | _, _, _ => False
theorem o_lt2 : OpD C (compareOp .Lt) lt2D := by
  intro c S x y a b Q Q' ok ha hb h k
  unfold lt2D at h
  split at h
  · exact o_lt c S x y _ _ Q Q' ok ha hb h k
  · obtain ⟨ns, ms, rfl, rfl, q⟩ := h
    obtain ⟨pa, us, rfl, _, h1, r1⟩ := ha.tup ok
    obtain ⟨pb, ws, rfl, _, h2, r2⟩ := hb.tup ok
    have e1 := r1.ints
    have e2 := r2.ints
    subst e1 e2
    exact wO.of (op_ltT (Nat.lt_of_le_of_lt (Nat.le_succ _) (units1 c))) ⟨pa, pb, ns, ms, rfl, rfl, sqt_rd h1, sqt_rd h2, fin_val ok k q (.bl _)⟩
  · exact h.elim
end
end DL
/-! sorted of a tuple of ints; dict(pairs); d.get -/
namespace DL
open PySem PySem.Spec PyProof.Rows L2
section
variable {prog : Program} {w : World} {A : Around} {E : Value → Shared → Prop} {s : Shared}
/-- the heap behind the gathering of a sequence's items ws -/
abbrev gathH (h : Heap) (ws : List Value) : Heap := (h.push (seqObj "list" #[] 0)).update h.objs.size (Obj.mapSeq (· ++ ws.toArray))
theorem collect_tupleI {t : Addr} {ws : List Value} {R : List Value → Shared → Prop} (ht : s.heap.IsTuple t ws.toArray) (hz : ws.length ≤ sizeLine) (k : R ws { s with heap := gathH s.heap ws }) : wpAny (model prog w) A (collect (.ref t)) R E s := by
  obtain ⟨ot, gt, ct, nt, dt⟩ := id ht
  unfold collect
  refine wpAny_bind (wpAny_runValue (codeAny_builtin entry_proto_collect' ?_))
  show wpAny _ _ (do again (.builtin "list.__iadd__" ⟨[← newList [], .ref t], []⟩)) _ _ s
  refine wpAny_bind (wpAny_newList (wpAny_pure ⟨Code.quiet_builtin _ (by decide +kernel), codeAny_builtin entry_list_iadd' ?_⟩))
  show wpAny _ _ (Builtin.List.listExtendWith (.ref s.heap.objs.size) (.ref t) (.ref s.heap.objs.size)) _ _ { s with heap := s.heap.push (seqObj "list" #[] 0) }
  unfold Builtin.List.listExtendWith
  have gt' : (s.heap.push (seqObj "list" #[] 0)).get? t = some ot := Heap.get?_push_of_some _ gt
  have gn : (s.heap.push (seqObj "list" #[] 0)).get? s.heap.objs.size = some (seqObj "list" #[] 0) := Heap.get?_push_size _ rfl
  refine wpAny_bind (wpAny_typeOf (T := "tuple") ⟨ot, gt', ct⟩ ?_)
  have e1 : (Value.type "tuple" == Value.type "list") = false := by rfl
  have e2 : (Value.type "tuple" == Value.type "tuple") = true := by rfl
  rw [if_pos (by rw [e1, e2]; simp)]
  refine wpAny_bind (listItems_at gt' dt ?_)
  refine wpAny_bind (listItems_at (xs := #[]) (n := 0) gn rfl ?_)
  rw [if_neg (by simp)]
  refine wpAny_bind (listUpdate_at (xs := #[]) (n := 0) gn rfl ?_ (Nat.zero_le _) (by show (#[] ++ ws.toArray).size ≤ sizeLine + 1; simp only [Array.size_append, List.size_toArray, List.length_nil]; omega))
  refine wpAny_pure ?_
  show wpAny (model prog w) A (do
      let got ← load s.heap.objs.size
      match got.data with
      | .seq xs _ => pure xs.toList
      | _ => unsupported "internal:collect") R E { s with heap := gathH s.heap ws }
  refine wpAny_bind (wpAny_load (get?_update_seq gn _) ?_)
  show wpAny _ _ (pure ((#[] : Array Value) ++ ws.toArray).toList) R E _
  have e3 : ((#[] : Array Value) ++ ws.toArray).toList = ws := by simp
  rw [e3]
  exact wpAny_pure k
theorem sorted_ordT {t : Addr} {ws : List Value} {ltv : Value → Value → Bool} {R : Value → Shared → Prop} (O : SrtO.Swo ltv) (ht : s.heap.IsTuple t ws.toArray) (hz : ws.length ≤ sizeLine)
    (hS : 2 ≤ ws.length → ∀ (h₁ : Heap) (a : Addr), SrtO.SortableO prog w A.in1.in1 { s with heap := h₁ } a ws ltv)
    (k : ∀ out : List Value, SrtO.Srtd ltv out → SrtO.Stb ltv out ws → R (.ref (s.heap.objs.size + 1)) { s with heap := sortedAll s.heap ws out.toArray }) :
    wpAny (model prog w) A (call (.builtin "sorted") [.ref t]) R E s := by
  refine Calls.call_function_entry kind_sorted plain_sorted entry_sorted (args_sorted1 _) ?_
  unfold Builtin.«sorted»
  refine wpAny_bind (m := checkCount "sorted" 1 1 _) (wpAny_pure ?_)
  refine wpAny_bind (collect_tupleI ht hz ?_)
  refine wpAny_bind (wpAny_newList ?_ hz)
  have sz : (gathH s.heap ws).objs.size = s.heap.objs.size + 1 := by
    rw [Heap.size_update, size_push']
  have at1 : ((gathH s.heap ws).push (seqObj "list" ws.toArray 0)).get? (s.heap.objs.size + 1) = some (seqObj "list" ws.toArray 0) := by
    rw [← sz]; exact Heap.get?_push_size _ rfl
  show wpAny _ _ _ _ _ { s with heap := (gathH s.heap ws).push (seqObj "list" ws.toArray 0) }
  rw [sz]
  refine wpAny_bind (wpAny_holding (wpAny_call_entry slot_list_sort ⟨_, at1, rfl⟩ entry_list_sort (SrtO.list_sort_ord O at1 hz (fun h2 => hS h2 _ _) fun out h1 h2 => ⟨_, rfl, ?_⟩) (args_list_sort _)))
  exact wpAny_pure ⟨_, rfl, k out h1 h2⟩
end
theorem cr_sortedIT {X : Cx} : CallR X (.builtin "sorted") (fun vs H Q => ∃ (a : Addr) (ns : List Int), vs = [V.ref a] ∧ SqT X.K H a (ns.map V.int) ∧ ∀ (ms : List Int) (p : Addr), ms.Perm ns → ms.Pairwise (· ≤ ·) → H p = none → Q (.ref p) (upd H p (.lst (ms.map V.int)))) := by
  intro pins s σ H vs us Q I r h
  obtain ⟨a, ns, rfl, hs, q⟩ := h
  obtain ⟨its, rv, ht, hz⟩ := I.tuple hs
  rw [Vals.ref1 r]
  have hi := rv.ints
  refine sorted_ordT SrtO.swo_int ht (by rw [← rv.length]; exact hz) (fun h2 h₁ a' => SrtO.ints_sortable hi h2) fun out h1 h2 => ?_
  obtain ⟨k1, k2, k3⟩ := SrtO.ints_out hi h1 h2
  obtain ⟨ep, he⟩ := sortedAll_at s.heap its out.toArray
  have hl : ((out.map SrtO.iv).map V.int).length ≤ sizeLine := by
    rw [List.length_map, k2.length_eq]
    rw [List.length_map] at hz
    exact hz
  exact ⟨.ref _, upd H (s.heap.objs.size + 1) (.lst ((out.map SrtO.iv).map V.int)), I.laid (t' := s.toks) (fun _ _ => sortedAll_old) (Nat.le_succ _) ⟨hl, out, ep, vals_of_ints k1, he⟩, rfl, q _ _ k2 k3 (I.hok.fresh (Nat.le_succ _))⟩
section
variable {C : Cd}
def sorted2D : DCl := fun ds Q => ∃ (d : D) (ns : List Int), ds = [d] ∧ intsOf ns d ∧ ∀ ns' : List Int, ns'.Perm ns → ns'.Pairwise (· ≤ ·) → Q (.new (ns'.map .int))
theorem c_sorted2 : CallD C (.builtin "sorted") sorted2D := by
  rintro c S vs ds Q Q' ok hs ⟨d, ns, rfl, hd, h⟩ k
  rcases hd with rfl | rfl
  · exact c_sorted c S vs _ Q Q' ok hs ⟨ns, rfl, h⟩ k
  · obtain ⟨v, rfl, hv⟩ := hs.one
    obtain ⟨p, us, rfl, _, h1, r⟩ := hv.tup ok
    have e := r.ints
    subst e
    exact wC.of cr_sortedIT ⟨p, ns, rfl, sqt_rd h1, fun ns' l hp hs hl => fin_new ok k (h ns' hp hs) (RpL.of_ints ns') hl⟩
end
end DL
/-! dict(pairs), tuple(range(..)) -/
namespace DL
open PySem PySem.Spec PyProof.Rows L2
def keyDat : Key → D
  | .inl i => .int i
  | .inr x => .str x
def mergeG (kvs more : List (Key × D)) : List (Key × D) := more.foldl (fun acc kv => putG acc kv.1 kv.2) kvs
section
variable {K : PySem.W.Frag} {F : Hp}
theorem kvr_merge : ∀ {more : List (Key × V)} {more' : List (Key × D)} {x : List (Key × V)} {y : List (Key × D)}, KvR K F more more' → KvR K F x y → KvR K F (mergeK x more) (mergeG y more')
  | [], [], _, _, _, h => h
  | [], _ :: _, _, _, h, _ => absurd (kvr_len h) (by simp)
  | _ :: _, [], _, _, h, _ => absurd (kvr_len h) (by simp)
  | p :: m, q :: m', x, y, h, hx => by
    obtain ⟨h1, h2, h3⟩ := kvr_cons.mp h
    show KvR K F (mergeK (putK x p.1 p.2) m) (mergeG (putG y q.1 q.2) m')
    rw [h1]
    exact kvr_merge h3 (kvr_put hx h2)
theorem key_v {k : Key} {v : V} (r : Rp K F v (keyDat k)) : v = kV k := by
  cases k with
  | inl i => cases r; rfl
  | inr x => cases r; rfl
/-- the pairs of a list -/
theorem pairs_v : ∀ (kvs : List (Key × D)) (vs : List V), RpL K F vs (kvs.map fun kv => .tup [keyDat kv.1, kv.2]) →
    ∃ (ps : List Addr) (kvs' : List (Key × V)), vs = ps.map V.ref ∧ Paired (fun p (kv : Key × V) => Rd F p (.tup [kV kv.1, kv.2])) ps kvs' ∧ KvR K F kvs' kvs
  | [], vs, r => by
    cases r
    exact ⟨[], [], rfl, .nil, rfl, .nil⟩
  | kv :: kvs, vs, r => by
    cases r with
    | cons r1 r2 =>
      cases r1 with
      | tup h hr =>
        cases hr with
        | cons a b =>
          cases b with
          | cons b1 b2 =>
            cases b2
            obtain ⟨ps, kvs', rfl, h1, h2⟩ := pairs_v kvs _ r2
            have e := key_v a
            subst e
            exact ⟨_ :: ps, (kv.1, _) :: kvs', rfl, .cons h h1, kvr_cons.mpr ⟨rfl, b1, h2⟩⟩
theorem paired_imp {α β : Type} {f g : α → β → Prop} (h : ∀ a b, f a b → g a b) : ∀ {x : List α} {y : List β}, Paired f x y → Paired g x y
  | _, _, .nil => .nil
  | _, _, .cons a b => .cons (h _ _ a) (paired_imp h b)
end
section
variable {C : Cd}
def dictPD : DCl := fun ds Q => ∃ kvs : List (Key × D), ds = [.lst (kvs.map fun kv => .tup [keyDat kv.1, kv.2])] ∧ Q (.nob (.dk true (mergeG [] kvs)))
theorem c_dictP : CallD C (.type "dict") dictPD := by
  rintro c S vs ds Q Q' ok hs ⟨kvs, rfl, h⟩ k
  obtain ⟨v, rfl, hv⟩ := hs.one
  obtain ⟨a, us, rfl, h1, r⟩ := hv.lst ok
  obtain ⟨ps, kvs', rfl, hp, hk⟩ := pairs_v kvs us r
  refine wC.of (call_dictP c.calm) ⟨a, ps, kvs', rfl, SqL.of h1, paired_imp (fun p kv e => sqt_rd (Rd.sub e ok.sub)) hp, fun p hl => ?_⟩
  exact k (.nob (.dk true (mergeG [] kvs))) (.ref p) S.F (upd S.H p (.dK (mergeK [] kvs'))) h (ok.laid hl) (Go.laid hl)
    ⟨p, _, rfl, hl, ok.freeN hl, upd_same, ⟨_, rfl, kvr_merge hk ⟨rfl, .nil⟩⟩, rfl, ok.noOwn hl⟩
theorem bt_dict : bootBuiltins "dict" = some (.type "dict") := by decide +kernel
variable {a b cc e : Expr} {ta tb tc te : TEd} {pos p p2 : Pos}
/-- tuple(range(..)) -/
def rgtO (Q : Rv → List Sl → Prop) (ρ : List Sl) : Option D → Option D → Prop
  | some (.int i), some (.int j) => RgOk i j ∧ Q (.val (.tup (rgD i j))) ρ
  | _, _ => False
theorem rgtO_some {Q : Rv → List Sl → Prop} {ρ : List Sl} {x y : Option D} (h : rgtO Q ρ x y) : ∃ i j, x = some (.int i) ∧ y = some (.int j) ∧ RgOk i j ∧ Q (.val (.tup (rgD i j))) ρ := by
  unfold rgtO at h
  split at h
  · exact ⟨_, _, rfl, rfl, h.1, h.2⟩
  · exact h.elim
def rTRg (ta tb : TEd) : TEd := fun ρ Q => ta ρ fun x ρ1 => tb ρ1 fun y ρ2 => rgtO Q ρ2 (rd ρ2 x) (rd ρ2 y)
theorem d_tupRg1 (hg : Gl C.X "tuple") (hm : C.X.mg "tuple" = none) (hgr : Gl C.X "range") (hmr : C.X.mg "range" = none) (ha : PEd C a ta)
    (na : starEach [a] C.X.env = (false, eval a C.X.env) :: starEach [] C.X.env := by rfl)
    (ne : starEach [.Call (.Name "range" p) [a] [] p2] C.X.env = (false, eval (.Call (.Name "range" p) [a] [] p2) C.X.env) :: starEach [] C.X.env := by rfl) {p3 : Pos} :
    PEd C (.Call (.Name "tuple" p3) [.Call (.Name "range" p) [a] [] p2] [] pos) (rTRg (rC (.int 0)) ta) := by
  intro c S Q Q' ok g0 h k
  refine wE.of (pe_tupRg c.calm hg hm (prg_1 hgr hmr pe_w na) ne) ?_
  refine ha c S _ _ ok g0 h fun y u F2 ρ2 H2 h2 ok2 g2 r2 => ?_
  obtain ⟨i, j, e1, e2, ok3, q⟩ := rgtO_some h2
  cases e1
  refine ⟨j, (ok2.rd r2 e2).int, ok3, ?_⟩
  exact fun l hl => fin_tup (C := C) (S := S.to F2 ρ2 H2) (Q := fun r => Q r ρ2) ok2 (fun r w F3 H3 h3 ok3 g3 r3 => k r w F3 ρ2 H3 h3 ok3 (g2.trans g3) (r3.start fun a z => g2.dom a z)) q (rgD_rp 0 j) hl
/-- i, i - 1, .., n of them -/
def dnD (i : Int) (n : Nat) : List D := (List.range n).map fun (k : Nat) => D.int (i - (k : Int))
def dnV (i : Int) (n : Nat) : List V := (List.range n).map fun (k : Nat) => V.int (i - (k : Int))
theorem dn_rp {K : PySem.W.Frag} {F : Hp} (i : Int) (n : Nat) : RpL K F (dnV i n) (dnD i n) := by
  have h := RpL.of_ints (K := K) (F := F) ((List.range n).map fun (k : Nat) => i - (k : Int))
  rw [List.map_map, List.map_map] at h
  exact h
theorem vals_dn {i : Int} {n : Nat} {acc : Array Value} (h : ItemsOf (fun k v => ∃ t, v = .int (i + k * (-1)) t) acc n) : Vals (dnV i n) acc.toList := by
  have e : acc.toList.length = n := by rw [Array.length_toList]; exact h.1
  unfold dnV
  rw [← e]
  refine vals_of_get acc.toList _ fun j u hj => ?_
  obtain ⟨t, rfl⟩ := h.2 j u (by rw [← hj, Array.getElem?_toList])
  exact ⟨t, by congr 1; omega⟩
theorem pe_tupDn {X : Cx} {ea eb ec : Expr} {wa : TA} {p3 : Pos} (hcm : X.calm = true) (hg : Gl X "tuple") (hm : X.mg "tuple" = none) (hgr : Gl X "range") (hmr : X.mg "range" = none) (ha : PA X [ea, eb, ec] wa)
    (hs : starEach [ea, eb, ec] X.env = (false, eval ea X.env) :: starEach [eb, ec] X.env := by rfl) (hpl : (backTo p2 (starEach [eb, ec] X.env)).any (·.1) = false := by rfl)
    (ne : starEach [.Call (.Name "range" p) [ea, eb, ec] [] p2] X.env = (false, eval (.Call (.Name "range" p) [ea, eb, ec] [] p2) X.env) :: starEach [] X.env := by rfl) :
    PE X (.Call (.Name "tuple" p3) [.Call (.Name "range" p) [ea, eb, ec] [] p2] [] pos) (fun σ H Q => wa σ H fun vs H1 => ∃ (i j : Int) (n : Nat), vs = [.int i, .int j, .int (-1)] ∧ RgC i j (-1) n ∧ n ≤ 2 ^ 24 ∧ ∀ q, H1 q = none → Q (.ref q) (upd H1 q (.tup (dnV i n)))) := by
  refine ⟨fun pins s σ H Q I h => ?_⟩
  refine Call_ (ld_blt I hg hm boot_tuple (PyProof.Rows.callWith_type1 (args_cons ?_ ne) ne))
  refine Call_ (ld_blt I hgr hmr boot_range (PyProof.Rows.callWith_type1 (thn (ha.run p2 pins s σ H _ I h) fun us s1 ⟨vs, H1, I1, r1, q1⟩ => ?_) hs hpl))
  obtain ⟨i, j, n, e, ⟨c0, c1, c2, c3⟩, hn, q⟩ := q1
  subst e
  cases r1 with
  | cons r rr =>
    cases rr with
    | cons r' rr' =>
      cases rr' with
      | cons r'' rr'' =>
        cases rr''
        obtain ⟨t, rfl⟩ := r
        obtain ⟨t', rfl⟩ := r'
        obtain ⟨t'', rfl⟩ := r''
        refine call_range_3 c0 ?_ (Or.inl (PyProof.noPylong_small (by omega)))
        refine args_nil ?_
        have I2 := I1.kept (t' := s1.toks) (h' := s1.heap.push { cls := .type "range", data := .fields #[.int i t, .int j t', .int (-1) t''] }) (fun b u e => Heap.get?_push_of_some _ e)
        refine call_tuple_range (n := n) (I2.ok.hd hcm) (IsRange.new _ _ _ _ _ _ _) c2 c3 hn fun h' tk acc hk hi => ?_
        have I3 := I2.kept (t' := tk) hk
        refine ⟨.ref h'.objs.size, upd H1 h'.objs.size (.tup (dnV i n)), I3.laid (t' := tk) (fun c o e => Heap.get?_push_of_some _ e) (Nat.le_refl _) (show ObjOk X.prog X.w _ _ _ (.tup (dnV i n)) from ⟨?_, acc.toList, vals_dn hi, ?_⟩), rfl, q _ (I3.hok.fresh (Nat.le_refl _))⟩
        · unfold dnV; rw [List.length_map, List.length_range, sizeLine_eq]; omega
        · rw [Array.toArray_toList]; exact IsTup.new _ _
def dnO (Q : Rv → List Sl → Prop) (ρ : List Sl) : Option (List D) → Prop
  | some [.int i, .int j, .int c] => c = -1 ∧ (-(2 ^ 62) ≤ i ∧ i < 2 ^ 62 ∧ -(2 ^ 62) ≤ j ∧ j < 2 ^ 62 ∧ (i - j).toNat ≤ 2 ^ 24) ∧ Q (.val (.tup (dnD i (i - j).toNat))) ρ
  | _ => False
theorem dnO_some {Q : Rv → List Sl → Prop} {ρ : List Sl} {x : Option (List D)} (h : dnO Q ρ x) : ∃ i j, x = some [.int i, .int j, .int (-1)] ∧ (-(2 ^ 62) ≤ i ∧ i < 2 ^ 62 ∧ -(2 ^ 62) ≤ j ∧ j < 2 ^ 62 ∧ (i - j).toNat ≤ 2 ^ 24) ∧ Q (.val (.tup (dnD i (i - j).toNat))) ρ := by
  unfold dnO at h
  split at h
  · obtain ⟨rfl, h2, h3⟩ := h
    exact ⟨_, _, rfl, h2, h3⟩
  · exact h.elim
def rTDn (ta : TAd) : TEd := fun ρ Q => ta ρ fun rs ρ1 => dnO Q ρ1 (rdL ρ1 rs)
theorem d_tupDn (hg : Gl C.X "tuple") (hm : C.X.mg "tuple" = none) (hgr : Gl C.X "range") (hmr : C.X.mg "range" = none) (ha : PEd C a ta) (hb : PEd C b tb) (hc : PEd C cc tc)
    (hs : starEach [a, b, cc] C.X.env = (false, eval a C.X.env) :: starEach [b, cc] C.X.env := by rfl) (hs2 : starEach [b, cc] C.X.env = (false, eval b C.X.env) :: starEach [cc] C.X.env := by rfl) (hs3 : starEach [cc] C.X.env = (false, eval cc C.X.env) :: starEach [] C.X.env := by rfl)
    (hpl : (backTo p2 (starEach [b, cc] C.X.env)).any (·.1) = false := by rfl)
    (ne : starEach [.Call (.Name "range" p) [a, b, cc] [] p2] C.X.env = (false, eval (.Call (.Name "range" p) [a, b, cc] [] p2) C.X.env) :: starEach [] C.X.env := by rfl) {p3 : Pos} :
    PEd C (.Call (.Name "tuple" p3) [.Call (.Name "range" p) [a, b, cc] [] p2] [] pos) (rTDn (rCons ta (rCons tb (rCons tc rNil)))) := by
  intro c S Q Q' ok g0 h k
  refine wE.of (pe_tupDn c.calm hg hm hgr hmr pa_w hs hpl ne) ?_
  refine (da_cons ha (da_cons hb (da_cons hc da_nil hs3) hs2) hs) c S _ _ ok g0 h fun rs vs F1 ρ1 H1 q1 ok1 g1 r1 hl => ?_
  obtain ⟨i, j, e1, ⟨b1, b2, b3, b4, b5⟩, q⟩ := dnO_some q1
  obtain ⟨v, w, u, rfl, hv, hw, hu⟩ := (ok1.rdL r1 e1).three
  refine ⟨i, j, (i - j).toNat, by rw [hv.int, hw.int, hu.int], RgC.neg b1 b2 b3 b4, b5, ?_⟩
  exact fun l hl => fin_tup (C := C) (S := S.to F1 ρ1 H1) (Q := fun r => Q r ρ1) ok1 (fun r w F3 H3 h3 ok3 g3 r3 => k r w F3 ρ1 H3 h3 ok3 (g1.trans g3) (r3.start fun a z => g1.dom a z)) q (dn_rp i _) hl
end
end DL
/-! the loop over the bags, the bag a cell, too -/
namespace DL
open PySem PySem.Spec PyProof.Rows L2
section
variable {C : Cd} {pos pp p0 pt p1 : Pos} {xb x s : Str} {f : Addr} {fd : FuncData} {ps : List Str} {k : Nat} {m : Int} {jj : Nat} {body : List Stmt} {tb : TSd}
theorem ds_bagsC (is ib : Nat) (F : FnOk C.X.prog C.X.w C.X.K C.X.mg C.X.base (L2N.CX C.X.prog C.X.w) k f fd ps (toSp C.X.K C.T 2 spBags)) (hk : k ≤ C.k) (hg : Gl C.X x) (hm : C.X.mg x = some (.ref f)) (hkp : PySem.W.keepIn C.X.K (.ref f) = true) (hb : Binds C.X.K fd ps [])
    (hNs : C.X.N[is]? = some s) (hvs : Vis C.X.env.scope s) (hNb : C.X.N[ib]? = some xb) (hvb : Loc C.X.env.scope xb) (hfb : C.X.fn xb = true ∨ C.X.env.scope.names.lookup xb = some .local)
    (hbd : ∀ S0 : Sx, PSsd ⟨C.X, C.T, S0, C.W, fun _ _ => False, C.k⟩ body tb)
    (hdb : (x == ("__debug__" : Str)) = false := by decide) (hd : (s == ("__debug__" : Str)) = false := by decide) (hcd : (s == ("__classdict__" : Str)) = false := by decide)
    (he : starEach [.Name s p0, .Constant (.int m) jj p1] C.X.env = (false, eval (.Name s p0) C.X.env) :: starEach [.Constant (.int m) jj p1] C.X.env := by rfl)
    (he2 : starEach [.Constant (.int m) jj p1] C.X.env = (false, eval (.Constant (.int m) jj p1) C.X.env) :: starEach [] C.X.env := by rfl)
    (hpl : (backTo pos (starEach [.Constant (.int m) jj p1] C.X.env)).any (·.1) = false := by rfl) (hfs : ∀ x', foldedSetIterable (.Call (.Name x pp) [.Name s p0, .Constant (.int m) jj p1] [] pos) C.X.env x' = pure x' := by intro _; rfl) :
    C.Wf → ∀ (S : Sx) (E : Ed) (D : Ends), Ok C.X.K C.T S → Go C.S0 S → (∀ a o, S.F a = some o → ∃ u xs, o = .frz u (.lst xs)) → (∀ (j : Nat) (s : Sl), S.ρ[j]? = some s → s.owned = false) → rBags is ib m tb E S.ρ → Endd C S E D →
      wS C.X (.For (.Name xb pt) (.Call (.Name x pp) [.Name s p0, .Constant (.int m) jj p1] [] pos) body [] pos) D S.σ S.H := by
  intro c S E D ok g0 hF hu h kk
  obtain ⟨m0, m1, ⟨ns, hsc⟩, hib, I, i0, step, fin⟩ := h
  have cB : ∀ S0 : Sx, Cd.Wf ⟨C.X, C.T, S0, C.W, fun _ _ => False, C.k⟩ := fun S0 => ⟨c.tk, c.room, c.calm, c.nd, c.po, fun _ _ _ _ z => z.elim⟩
  refine wS.of (ps_for c.po c.calm (pi_list (pe_callS (F.mono hk) c.room hg hm hkp hb (fun σ => L2N.passAt c.tk σ) (pa_cons (pe_var hNs hvs hd hcd) (pa_cons pe_int pa_nil he2) he) hdb he hpl)) pg_w pss_w hfs) ?_
  obtain ⟨p, hp, hq⟩ := ok.slot is _ hsc
  refine ⟨.ref p, hp, ?_⟩
  have okA : Ok C.X.K C.T ⟨S.F, [.scr ns, .sh (.int m)], ([V.ref p, .int m]).map some, S.H⟩ := by
    refine ⟨ok.sub, ok.tab, rfl, fun j t ht => ?_, fun i j a b q h1 h2 w1 w2 _ _ => ?_⟩
    · cases j with
      | zero =>
        have ht : Sl.scr ns = t := by simpa using ht
        subst ht
        exact ⟨p, rfl, hq⟩
      | succ j =>
        cases j with
        | zero =>
          have ht : Sl.sh (.int m) = t := by simpa using ht
          subst ht
          exact ⟨_, rfl, .int m⟩
        | succ j => simp at ht
    · cases i with
      | zero => have h1 : Sl.scr ns = a := by simpa using h1
                subst h1; cases w1
      | succ i =>
        cases i with
        | zero => have h1 : Sl.sh (.int m) = a := by simpa using h1
                  subst h1; cases w1
        | succ i => simp at h1
  have uA : ∀ (j : Nat) (t : Sl), [Sl.scr ns, .sh (.int m)][j]? = some t → t.owned = false ∧ t.fresh = false := fun j t ht => by
    cases j with
    | zero => have ht : Sl.scr ns = t := by simpa using ht
              subst ht; exact ⟨rfl, rfl⟩
    | succ j =>
      cases j with
      | zero => have ht : Sl.sh (.int m) = t := by simpa using ht
                subst ht; exact ⟨rfl, rfl⟩
      | succ j => simp at ht
  refine ⟨rfl, S.F, [.scr ns, .sh (.int m)], fun res _ => ∃ xs, res = .new xs ∧ (∀ x ∈ xs, isBag 100000 x) ∧ xs.length ≤ 101, okA, fun j t ht => (uA j t ht).2, ⟨ns, m, rfl, m0, m1, fun xs _ hx hl => ⟨xs, rfl, hx, hl⟩⟩, fun res r v F' post H' hr er ok' g' hpst rr => ?_, fun er F' post H' cls d ⟨xs, hz, _⟩ => by cases hz⟩
  obtain ⟨xs, rfl, hx, hxl⟩ := hr
  cases er
  obtain ⟨L, vs, rfl, hL0, hL1, hL2, hL3, hL4⟩ := rr
  obtain ⟨ok1, g1, nw1⟩ := calledU (fun j t ht => (uA j t ht).1) ok ok' g'
  have hL2 : H' L = some (.lst vs) := hL2
  have hL3 : RpL C.X.K F' vs xs := hL3
  -- the state behind the call, what was new in F forgotten
  let S1 : Sx := ⟨S.F, S.ρ, S.σ, H'⟩
  have noOwn : ∀ a, ¬ Own S a := fun a ⟨j, t, h1, w, _⟩ => by rw [hu j t h1] at w; cases w
  have okS1 : Ok C.X.K C.T S1 := ⟨fun a o e => g1.kp a o (ok.sub a o e) (fun ps z => by obtain ⟨u, ys, e2⟩ := hF a o e; rw [z] at e2; cases e2) (noOwn a), ok'.tab, ok.len, fun j t ht => (ok.slot j t ht).val (hu j t ht) (G.refl _), ok.dis⟩
  have gS1 : Go S S1 := ⟨G.refl _, g1.kp, fun a z => .inl z, fun a z => .inl z, fun a z => .inl z, g1.dom, fun j t h1 h2 h3 => ⟨rfl, t, h1, h2, h3⟩⟩
  have fact : ∀ v ∈ vs, ∃ q a b c, v = .ref q ∧ H' q = some (.lst [.int a, .int b, .int c]) ∧ BagOk 100000 a b c ∧ S.F q = none ∧ S.H q = none ∧ q ≠ L := fun v hv => by
    obtain ⟨i, hi⟩ := List.getElem?_of_mem hv
    obtain ⟨d, hd, rd⟩ := hL3.getV hi
    obtain ⟨a, b, cc, rfl, hbk⟩ := hx d (List.mem_of_getElem? hd)
    cases rd with
    | @lst q us _ e1 e2 =>
      have eu : us = [V.int a, .int b, .int cc] := RpL.ints (ns := [a, b, cc]) e2
      subst eu
      have fq : S.F q = none := by
        cases z : S.F q with
        | none => rfl
        | some o =>
          obtain ⟨u, ys, rfl⟩ := hF q o z
          have := g'.g q _ z (fun _ y => by cases y)
          rw [show F' q = some (.frz u (.lst ys)) from this] at e1
          cases e1
      have hqn : S.H q = none := (nw1 q (by rw [e1]; intro z; cases z)).elim (fun z => absurd fq z) id
      refine ⟨q, a, b, cc, rfl, ok1.sub q _ e1, hbk, fq, hqn, fun z => ?_⟩
      rw [z] at e1
      rw [show F' L = none from hL1] at e1
      cases e1
  have hLS : S.H L = none := hL0
  obtain ⟨okw, oww⟩ := wipe_slot (ib := ib) okS1
  let Sw : Sx := ⟨S.F, S.ρ.set ib .no, S.σ, H'⟩
  have noOw : ∀ a, ¬ Own Sw a := fun a z => by
    obtain ⟨j, t, _, h1, h2, _⟩ := oww a z
    have h1 : S.ρ[j]? = some t := h1
    rw [hu j t h1] at h2; cases h2
  have gSw : Go S Sw := ⟨G.refl _, g1.kp, fun a z => .inl z, fun a z => absurd z (noOw a), fun a z => absurd z.own (noOw a), g1.dom, fun j t h1 h2 h3 => by
    rcases set_at h1 with ⟨rfl, rfl⟩ | ⟨_, h1⟩
    · cases h2
    · rw [hu j t h1] at h2; cases h2⟩
  have newQ : ∀ v ∈ vs, ∀ q, v = .ref q → S.H q = none := fun v hv q e => by
    obtain ⟨q', _, _, _, e', _, _, _, z, _⟩ := fact v hv
    rw [e] at e'; cases e'; exact z
  refine ⟨L, rfl, ⟨vs, SqL.of hL2⟩, ?_⟩
  refine ⟨fun i mm σ H => ∃ S', S'.σ = σ ∧ S'.H = H ∧ mm = vs.length - i ∧ i ≤ vs.length ∧ I S'.ρ ∧ S'.ρ[ib]? = some .no ∧ Ok C.X.K C.T S' ∧ Go S S' ∧ BagFact vs L (100000 + 10000000 * i) S', ⟨vs.length, Sw, rfl, rfl, rfl, Nat.zero_le _, i0, by show (S.ρ.set ib .no)[ib]? = _; rw [List.getElem?_set_self hib], okw, gSw, hL2, noOw L, fun v hv => ?_⟩, ?_⟩
  · obtain ⟨q, a, b, cc, e1, e2, e3, e4, e5, e6⟩ := fact v hv
    exact ⟨q, a, b, cc, e1, e2, e3, e4, noOw q, e6⟩
  rintro i mm σ H ⟨S', rfl, rfl, rfl, hi, hI, hno, ok', g', hB⟩
  obtain ⟨hB1, hB2, hB3⟩ := hB
  have w := walk_list (K := C.X.K) (a := L) (xs := vs)
  have q : SqL C.X.K S'.H L vs := SqL.of hB1
  by_cases hlt : i < vs.length
  · refine .inr ⟨w.goes i _ hlt q, fun σ2 H2 => ∃ S2, S2.σ = σ2 ∧ S2.H = H2 ∧ I S2.ρ ∧ S2.ρ[ib]? = some .no ∧ Ok C.X.K C.T S2 ∧ Go S S2 ∧ BagFact vs L (100000 + 10000000 * (i + 1)) S2, ?_, ?_⟩
    · rintro σ2 H2 ⟨S2, e1, e2, e3, e4, e5, e6, e7⟩
      exact ⟨vs.length - (i + 1), by omega, S2, e1, e2, rfl, hlt, e3, e4, e5, e6, e7⟩
    · intro x H2 y
      obtain ⟨rfl, hx'⟩ := w.yields i _ x H2 hlt q y
      have hxm : x ∈ vs := List.mem_of_getElem? hx'
      obtain ⟨b, ba, bb, bc, rfl, b1, b2, b3, b4, b5⟩ := hB3 x hxm
      obtain ⟨n, hn⟩ : ∃ n, n = 100000 + 10000000 * i := ⟨_, rfl⟩
      rw [← hn] at b2
      let Sp : Sx := ⟨S'.F, S'.ρ.set ib (.bg false n), S'.σ.set ib (some (.ref b)), S'.H⟩
      have okp : Ok C.X.K C.T Sp := Ok.put (v := .ref b) (s := .bg false n) ok' ⟨b, ba, bb, bc, rfl, b3, b1, b2⟩ fun _ a (e : V.ref b = V.ref a) => by cases e; exact b4
      have ownp : ∀ a, Own Sp a → Own S' a ∨ a = b := fun a z => (own_put z).imp id fun y => by cases y.2; rfl
      have hvl : vs.length ≤ 101 := by rw [hL3.length]; exact hxl
      refine wG.of (pg_name c.nd hNb hvb hfb) ?_
      have hst := step n S'.ρ (by omega) hI
      refine hbd Sp (cB Sp) Sp _ _ okp (Go.refl _) hst ⟨fun S2 hS2 ok2 g2 => ?_, fun S2 z _ _ => (show False from z).elim, fun S2 z _ _ => (show False from z).elim, fun r v S2 z _ _ _ => (show False from z).elim⟩
      obtain ⟨n', hb1, hb2, hb3⟩ := hS2
      have hle : n' ≤ 100000 + 10000000 * (i + 1) := by
        rw [hn] at hb2
        rw [Nat.mul_add, Nat.mul_one, ← Nat.add_assoc]
        exact hb2
      obtain ⟨ok3, ow3⟩ := wipe_slot (ib := ib) ok2
      obtain ⟨pin1, _⟩ := g2.pin ib _ hb1 rfl rfl
      have hσp : Sp.σ[ib]? = some (some (.ref b)) := by
        show (S'.σ.set ib (some (V.ref b)))[ib]? = _
        rw [List.getElem?_set_self (by rw [← ok'.len]; exact (List.getElem?_eq_some_iff.mp hno).1)]
      have hσ2 : S2.σ[ib]? = some (some (.ref b)) := by rw [pin1]; exact hσp
      have ib2 : ib < S2.ρ.length := (List.getElem?_eq_some_iff.mp hb1).1
      have hbS : S.H b = none := newQ _ hxm b rfl
      have key : ∀ a, Own ⟨S2.F, S2.ρ.set ib .no, S2.σ, S2.H⟩ a → (Own S' a ∨ Sp.H a = none) ∧ a ≠ b := fun a z => by
        obtain ⟨j, t, nj, h1, h2, h3⟩ := ow3 a z
        have ne : a ≠ b := fun e => by
          subst e
          exact nj (ok2.dis j ib t _ a h1 hb1 h2 rfl h3 hσ2)
        refine ⟨?_, ne⟩
        rcases g2.ow a ⟨j, t, h1, h2, h3⟩ with y | y
        · rcases ownp a y with y | y
          · exact .inl y
          · exact absurd y ne
        · exact .inr y
      have ofrp : ∀ a, Ofr Sp a → Ofr S' a := fun a ⟨j, t, h1, h2, h4, h3⟩ => by
        rcases set_at h1 with ⟨rfl, rfl⟩ | ⟨nj, h1⟩
        · cases h4
        · refine ⟨j, t, h1, h2, h4, ?_⟩
          rw [← h3]
          exact (List.getElem?_set_ne (Ne.symm nj)).symm
      have nOwnL : ¬ Own Sp L := fun z => (ownp L z).elim hB2 fun e => b5 e.symm
      have keepF : ∀ a o, S'.H a = some o → S'.F a = none → ¬ Own S' a → S2.F a = none := fun a o e1 e2 e3 => by
        cases z : S2.F a with
        | none => rfl
        | some u =>
          rcases g2.nw a (by rw [z]; intro y; cases y) with y | y | y
          · exact absurd e2 y
          · rw [show S'.H a = none from y] at e1; cases e1
          · exact absurd (ofrp a y).own e3
      refine ⟨⟨S2.F, S2.ρ.set ib .no, S2.σ, S2.H⟩, rfl, rfl, hb3, by show (S2.ρ.set ib .no)[ib]? = _; rw [List.getElem?_set_self ib2], ok3, ?_, ?_⟩
      · refine ⟨g'.g.trans g2.g, fun a o e nt no => ?_, fun a z => ?_, fun a z => ?_, fun a z => ?_, fun a z => g'.dom a (g2.dom a z), fun j t h1 h2 h3 => ?_⟩
        · have e1 := g'.kp a o e nt no
          refine g2.kp a o e1 nt fun y => ?_
          rcases ownp a y with y | y
          · rcases g'.ow a y with y | y
            · exact no y
            · rw [y] at e; cases e
          · rw [y, hbS] at e; cases e
        · rcases g2.nw a z with y | y | y
          · exact g'.nw a y
          · exact .inr (.inl (g'.dom a y))
          · exact (g'.fr a (ofrp a y)).elim (fun q => .inr (.inr q)) fun q => .inr (.inl q)
        · obtain ⟨y, _⟩ := key a z
          rcases y with y | y
          · exact g'.ow a y
          · exact .inr (g'.dom a y)
        · obtain ⟨j, t, h1, h2, h4, h3⟩ := z
          rcases set_at h1 with ⟨rfl, rfl⟩ | ⟨nj, h1⟩
          · cases h2
          · rcases g2.fr a ⟨j, t, h1, h2, h4, h3⟩ with y | y
            · exact g'.fr a (ofrp a y)
            · exact .inr (g'.dom a y)
        · rcases set_at h1 with ⟨rfl, rfl⟩ | ⟨nj, h1⟩
          · cases h2
          · obtain ⟨e1, t', h4, h5, h6⟩ := g2.pin j t h1 h2 h3
            rcases set_at h4 with ⟨e, _⟩ | ⟨_, h4⟩
            · exact absurd e nj
            · obtain ⟨e2, u⟩ := g'.pin j t' h4 h5 h6
              refine ⟨?_, u⟩
              show S2.σ[j]? = S.σ[j]?
              rw [e1, ← e2]
              exact List.getElem?_set_ne (Ne.symm nj)
      · refine ⟨g2.kp L _ hB1 (fun _ z => by cases z) nOwnL, fun z => ?_, fun v hv => ?_⟩
        · rcases (key L z).1 with y | y
          · exact hB2 y
          · rw [show S'.H L = none from y] at hB1; cases hB1
        · obtain ⟨q, a, b', c', e1, e2, e3, e4, e5, e6⟩ := hB3 v hv
          have noq : ¬ Own ⟨S2.F, S2.ρ.set ib .no, S2.σ, S2.H⟩ q := fun z => by
            rcases (key q z).1 with y | y
            · exact e5 y
            · rw [show S'.H q = none from y] at e2; cases e2
          have fq := keepF q _ e2 e4 e5
          by_cases hqb : q = b
          · subst hqb
            obtain ⟨p2, a2, b2', c2, d1, d2, d3, d4⟩ := ok2.slot ib _ hb1
            rw [hσ2] at d1
            cases Option.some.inj (Option.some.inj d1)
            exact ⟨q, a2, b2', c2, e1, d3, d4.le hle, fq, noq, e6⟩
          · exact ⟨q, a, b', c', e1, g2.kp q _ e2 (fun _ z => by cases z) (fun z => (ownp q z).elim e5 hqb), e3.le (by omega), fq, noq, e6⟩
  · have e : i = vs.length := by omega
    subst e
    exact .inl ⟨w.stops _ q, kk.nx S' (fin _ hI) ok' g'⟩
end
end DL
/-! x in a list of data, xs.index(x), a value frozen at once -/
namespace DL
open PySem PySem.Spec PyProof.Rows L2
theorem pys_map : ∀ xs : List D, D.pys xs = xs.map D.py
  | [] => rfl
  | d :: xs => by
    show d.py :: D.pys xs = d.py :: xs.map D.py
    rw [pys_map xs]
section
variable {C : Cd}
theorem units65 {C : Cd} (c : C.Wf) : C.X.A.units + 65 < cLine := by have := c.room.un; omega
def inL (neg : Bool) : DOp := fun a b Q => match b with
  | .lst ys => (SeqAt.shaped a.py = true ∧ SeqAt.shaped (D.lst ys).py = true) ∧ Q (.val (.bl (if neg then !(ys.any fun y => PyData.eqv y.py a.py) else ys.any fun y => PyData.eqv y.py a.py)))
  | _ => False
theorem o_inL : OpD C (compareOp .In) (inL false) := by
  intro c S x y a b Q Q' ok ha hb h k
  cases b with
  | lst ys =>
    obtain ⟨⟨h1, h2⟩, q⟩ := h
    refine wO.of (op_inD (units65 c)) ⟨a.py, D.pys ys, Rp.dp _ _ (SeqAt.canLay_of_shaped h1) (ha.rp ok), Rp.dp (.lst ys) _ (SeqAt.canLay_of_shaped h2) (hb.rp ok), h1, h2, ?_⟩
    have e : ((D.pys ys).any fun z => PyData.eqv z a.py) = ys.any fun y => PyData.eqv y.py a.py := by rw [pys_map, List.any_map]; rfl
    rw [e]
    exact fin_val ok k q (.bl _)
  | _ => exact (show False from h).elim
/-- a new list frozen at once -/
def fzO (Q : Rv → List Sl → Prop) : Option (D × List Sl) → Prop
  | some p => Q (.val p.1) p.2
  | none => False
def rFz (te : TEd) : TEd := fun ρ Q => te ρ fun r ρ1 => fzO Q (cl1 ρ1 r)
theorem d_fz {e : Expr} {te : TEd} (h : PEd C e te) : PEd C e (rFz te) := fun c S Q Q' ok g0 q k => by
  refine h c S _ _ ok g0 q fun r v F1 ρ1 H1 q1 ok1 g1 r1 => ?_
  have q1 : fzO Q (cl1 ρ1 r) := q1
  cases e1 : cl1 ρ1 r with
  | none => rw [e1] at q1; exact q1.elim
  | some pr =>
    rw [e1] at q1
    obtain ⟨d, ρ2⟩ := pr
    obtain ⟨F2, ok2, g2, gF, rr⟩ := clean (S0 := S) (S := S.to F1 ρ1 H1) ok1 g1 r1 e1
    exact k (.val d) v F2 ρ2 H1 q1 ok2 g2 rr
/-- xs.index(d), xs a name -/
def idxO (xs : List D) (Q : Rv → List Sl → Prop) (ρ : List Sl) : Option (List D) → Prop
  | some [d] => (SeqAt.shaped d.py = true ∧ SeqAt.shaped (D.lst xs).py = true) ∧ ∃ (j : Nat) (z : D), xs[j]? = some z ∧ PyData.eqv z.py d.py = true ∧ (∀ (m : Nat) (z' : D), m < j → xs[m]? = some z' → PyData.eqv z'.py d.py = false) ∧ Q (.val (.int (j : Int))) ρ
  | _ => False
theorem idxO_some {xs : List D} {Q : Rv → List Sl → Prop} {ρ : List Sl} {o : Option (List D)} (h : idxO xs Q ρ o) : ∃ d, o = some [d] ∧ (SeqAt.shaped d.py = true ∧ SeqAt.shaped (D.lst xs).py = true) ∧ ∃ (j : Nat) (z : D), xs[j]? = some z ∧ PyData.eqv z.py d.py = true ∧ (∀ (m : Nat) (z' : D), m < j → xs[m]? = some z' → PyData.eqv z'.py d.py = false) ∧ Q (.val (.int (j : Int))) ρ := by
  unfold idxO at h
  split at h
  · exact ⟨_, rfl, h⟩
  · exact h.elim
def rIdx (i : Nat) (ta : TAd) : TEd := fun ρ Q => ∃ xs, ρ[i]? = some (.sh (.lst xs)) ∧ ta ρ fun rs ρ1 => idxO xs Q ρ1 (rdL ρ1 rs)
theorem d_idx (i : Nat) {x : Str} {a : Expr} {as : List Expr} {ta : TAd} {p0 apos cpos : Pos}
    (hN : C.X.N[i]? = some x) (hv : Vis C.X.env.scope x) (ha : PAd C (a :: as) ta)
    (hbase : attributeBase (.Name x p0) "index" C.X.env (eval (.Name x p0) C.X.env) = eval (.Name x p0) C.X.env := by rfl)
    (hfew : ((backTo cpos (starEach (a :: as) C.X.env)).all (fun x => !x.1) && (backToKw cpos (keywordEach [] C.X.env)).all (fun x => x.1.isSome)
      && decide ((a :: as).length + ([] : List Keyword).length + (if ([] : List Keyword).isEmpty then 0 else 1) < 30)) = true := by rfl)
    (hline : (apos.endLine == cpos.line) = true := by rfl) (hs : starEach (a :: as) C.X.env = (false, eval a C.X.env) :: starEach as C.X.env := by rfl) (hplain : (backTo cpos (starEach as C.X.env)).any (·.1) = false := by rfl)
    (hd : (x == ("__debug__" : Str)) = false := by decide) (hcd : (x == ("__classdict__" : Str)) = false := by decide) :
    PEd C (.Call (.Attribute (.Name x p0) "index" apos) (a :: as) [] cpos) (rIdx i ta) := fun c S Q Q' ok g0 h k => by
  refine wE.of (pe_bm PySem.F.plainAttrs_list PySem.F.slot_list_index PySem.F.type_list_index (mt_indexD (units65 c)) (pe_var hN hv hd hcd) pa_w hbase hfew hline hs hplain) ?_
  obtain ⟨xs, hsl, h⟩ := h
  obtain ⟨v, hov, hr⟩ := ok.slot i _ hsl
  cases hr with
  | lst h1 h2 =>
    refine ⟨_, hov, .inl ⟨rfl, _, SqL.of (ok.sub _ _ h1)⟩, ?_⟩
    refine ha c S _ _ ok g0 h fun rs ws F1 ρ1 H1 q1 ok1 g1 r1 _ => ?_
    obtain ⟨d, e1, ⟨s1, s2⟩, j, z, z1, z2, z3, q⟩ := idxO_some q1
    obtain ⟨w, rfl, hw⟩ := (ok1.rdL r1 e1).one
    have hl : Rp C.X.K H1 _ (.lst xs) := Rp.mono ok1.gH _ _ (Rp.mono g1.g _ _ (.lst h1 h2))
    refine ⟨_, w, d.py, D.pys xs, j, z.py, rfl, rfl, Rp.dp (.lst xs) _ (SeqAt.canLay_of_shaped s2) hl, Rp.dp _ _ (SeqAt.canLay_of_shaped s1) (hw.rp ok1), s2, s1, by rw [pys_map, List.getElem?_map, z1]; rfl, z2, fun m z' hm hz => ?_, k _ _ F1 ρ1 H1 q ok1 g1 (.int _)⟩
    rw [pys_map, List.getElem?_map] at hz
    cases e : xs[m]? with
    | none => rw [e] at hz; cases hz
    | some z0 => rw [e] at hz; cases hz; exact z3 m z0 hm e
end
end DL
/-! {k: v for ..}; d.get(k) -/
namespace DL
open PySem PySem.Spec PyProof.Rows L2
section
variable {K : PySem.W.Frag} {T : Tz} {S0 S : Sx} {vs : List Nat}
theorem Ok.pokeK {Da : Addr} {vs us : List (Key × V)} (ok : Ok K T S) (hF : S.F Da = none) (no : ¬ Own S Da) (hD : S.H Da = some (.dK vs)) : Ok K T ⟨S.F, S.ρ, S.σ, upd S.H Da (.dK us)⟩ where
  sub := fun a o e => by
    show upd S.H Da (.dK us) a = some o
    rw [upd_ne (fun z => by rw [z, hF] at e; cases e)]
    exact ok.sub a o e
  tab := by
    intro t ht
    obtain ⟨ps, a1, a2, a3⟩ := ok.tab t ht
    refine ⟨ps, ?_, a2, fun pos cv hc => ?_⟩
    · show upd S.H Da (.dK us) t.1 = _
      rw [upd_ne (fun z => by rw [z, hD] at a1; cases a1)]
      exact a1
    · obtain ⟨cc, b1, b2⟩ := a3 pos cv hc
      refine ⟨cc, b1, ?_⟩
      show upd S.H Da (.dK us) cc = _
      rw [upd_ne (fun z => by rw [z, hD] at b2; unfold LamX.CodeO at b2; cases b2)]
      exact b2
  len := ok.len
  slot := fun j t e => by
    cases w2 : t.owned with
    | false => exact (ok.slot j t e).val w2 (G.refl _)
    | true =>
      obtain ⟨q, u', b1, b2, b3, b4⟩ := (ok.slot j t e).at w2
      refine slR.of (p := q) (u := u') b1 b2 ?_ b4
      show upd S.H Da (.dK us) q = _
      rw [upd_ne (fun z => no ⟨j, t, e, w2, by rw [← z]; exact b1⟩)]
      exact b3
  dis := ok.dis
theorem Go.pokeK {Da : Addr} {us : List (Key × V)} (g : Go S0 S) (h0 : S0.H Da = none) : Go S0 ⟨S.F, S.ρ, S.σ, upd S.H Da (.dK us)⟩ where
  g := g.g
  kp := fun a o e n no => by
    show upd S.H Da (.dK us) a = some o
    rw [upd_ne (fun z => by rw [z, h0] at e; cases e)]
    exact g.kp a o e n no
  nw := g.nw
  ow := g.ow
  fr := g.fr
  dom := fun a e => by
    have e : upd S.H Da (.dK us) a = none := e
    by_cases z : a = Da
    · rw [z, upd_same] at e; cases e
    · rw [upd_ne z] at e; exact g.dom a e
  pin := g.pin
end
def keyO (k : Key → Prop) : Option D → Prop
  | some d => ∃ ky, keyD d = some ky ∧ k ky
  | none => False
theorem keyO_some {k : Key → Prop} {o : Option D} (h : keyO k o) : ∃ d ky, o = some d ∧ keyD d = some ky ∧ k ky := by
  cases o with
  | none => exact h.elim
  | some d => obtain ⟨ky, h1, h2⟩ := h; exact ⟨d, ky, rfl, h1, h2⟩
def rDc (own : List Nat) (ti : TId) (g : TGd) (tt : TTd) (tk te : TEd) : TEd := fun ρ Q => ti ρ fun its ρ1 => ∃ I : Nat → List (Key × D) → List Sl → Prop, I 0 [] (wip ρ1 own) ∧
  (∀ i d acc ρ', i < its.n → its.it i d → I i acc ρ' → g d ρ' fun ρ2 => tt ρ2 fun b ρ3 => (b = true → tk ρ3 fun rk ρk => keyO (fun ky => te ρk fun r ρ4 => rLcO (fun y ρ5 => acc.length < 16777216 ∧ I (i + 1) (putG acc ky y) (wip ρ5 own)) (cl1 ρ4 r)) (rd ρk rk)) ∧ (b = false → I (i + 1) acc (wip ρ3 own))) ∧
  ∀ acc ρ', I its.n acc ρ' → Q (.nob (.dk true acc)) (unw ρ1 own ρ')
section
variable {C : Cd} {kx elt tg iter : Expr} {ifs : List Expr} {scope : Scope} {own : List (Str × Nat)} {pos : Pos} {ti : TId} {g : TGd} {tt : TTd} {tk te : TEd}
theorem dc_read (hi : PId C tg iter ti)
    (hg : ∀ (s : Shared) (H : Hp) (Ca : Addr) (cl : List (Str × Addr)) (fp : List Addr) (S0 : Sx), PGx (C.blk s H scope Ca cl fp S0) (own.map (·.2)) tg g)
    (ht : ∀ (s : Shared) (H : Hp) (Ca : Addr) (cl : List (Str × Addr)) (fp : List Addr) (S0 : Sx), PIfd (C.blk s H scope Ca cl fp S0) ifs tt)
    (hk : ∀ (s : Shared) (H : Hp) (Ca : Addr) (cl : List (Str × Addr)) (fp : List Addr) (S0 : Sx), PEd (C.blk s H scope Ca cl fp S0) kx tk)
    (he : ∀ (s : Shared) (H : Hp) (Ca : Addr) (cl : List (Str × Addr)) (fp : List Addr) (S0 : Sx), PEd (C.blk s H scope Ca cl fp S0) elt te)
    (c : C.Wf) (S : Sx) (Q : Rv → List Sl → Prop) (Q' : VK) (ok : Ok C.X.K C.T S) (g0 : Go C.S0 S) (h : rDc (own.map (·.2)) ti g tt tk te S.ρ Q)
    (k : ∀ r v F' ρ' H', Q r ρ' → Ok C.X.K C.T (S.to F' ρ' H') → Go S (S.to F' ρ' H') → rvR C.X.K S.H (S.to F' ρ' H') r v → Q' v H') :
    tDc (wI C.X tg iter) (bG C.X scope tg) (bT C.X scope ifs) (bE C.X scope kx) (bE C.X scope elt) (own.map (·.2)) S.σ S.H Q' := by
  refine hi c S _ _ ok g0 h fun its J F1 ρ1 H1 ⟨I, i0, step, fin⟩ ok1 g1 it => ?_
  intro Da hD
  -- the wiped state ahead of the block
  let vs := own.map (·.2)
  let S1 : Sx := S.to F1 ρ1 H1
  let Sw : Sx := ⟨F1, wip ρ1 vs, L2.wipe S.σ vs, H1⟩
  have okw : Ok C.X.K C.T Sw := Ok.wip (S := S1) ok1
  have noD : ∀ S', Go Sw S' → Own S' Da → False ∨ True := fun _ _ _ => .inr trivial
  refine ⟨fun i m H => ∃ S' accV acc, S'.σ = L2.wipe S.σ vs ∧ S'.H = H ∧ m = its.n - i ∧ i ≤ its.n ∧ I i acc S'.ρ ∧ Ok C.X.K C.T S' ∧ Go Sw S' ∧ S'.H Da = some (.dK accV) ∧ KvR C.X.K S'.F accV acc ∧ S'.F Da = none ∧ ¬ Own S' Da ∧ (∀ j s, j ∈ vs → S'.ρ[j]? = some s → s = .no), ⟨its.n, ?_⟩, ?_⟩
  · have ok2 : Ok C.X.K C.T (Sw.to F1 (wip ρ1 vs) (upd H1 Da (.dK []))) := Ok.laid (S := Sw) okw hD
    exact ⟨_, [], [], rfl, rfl, rfl, Nat.zero_le _, i0, ok2, Go.laid (S := Sw) hD, upd_same, ⟨rfl, .nil⟩, okw.freeN hD, okw.noOwn hD, fun j s hj e => wip_in hj e⟩
  · rintro i m H ⟨⟨F0, ρ0, σ0, HH⟩, accV, acc, eσ, eH, rfl, hi, hI, ok', g', d1, d2, d3, d4, d5⟩
    have eσ : σ0 = L2.wipe S.σ vs := eσ
    have eH : HH = H := eH
    subst eσ eH
    let S' : Sx := ⟨F0, ρ0, L2.wipe S.σ vs, HH⟩
    have ok' : Ok C.X.K C.T S' := ok'
    have g' : Go Sw S' := g'
    have hI : I i acc S'.ρ := hI
    obtain ⟨w1, w2, w3⟩ := it S' ok' g'.g
    by_cases hlt : i < its.n
    · refine .inr ⟨w1 i hlt, fun H2 => ∃ S2 accV acc, S2.σ = L2.wipe S.σ vs ∧ S2.H = H2 ∧ I (i + 1) acc S2.ρ ∧ Ok C.X.K C.T S2 ∧ Go Sw S2 ∧ S2.H Da = some (.dK accV) ∧ KvR C.X.K S2.F accV acc ∧ S2.F Da = none ∧ ¬ Own S2 Da ∧ (∀ j s, j ∈ vs → S2.ρ[j]? = some s → s = .no), ?_, ?_⟩
      · rintro H2 ⟨S2, aV, a, e1, e2, e3, e4, e5, e6, e7, e8, e9, e10⟩
        exact ⟨its.n - (i + 1), by omega, S2, aV, a, e1, e2, rfl, hlt, e3, e4, e5, e6, e7, e8, e9, e10⟩
      · intro x H2 y
        obtain ⟨F2, d, hd, ok2, g2, rr⟩ := w3 i x H2 hlt y
        have eσ2 : (S'.to F2 S'.ρ H2).σ = L2.wipe S.σ vs := rfl
        -- what is known of the new list in all states behind
        have keepD : ∀ {a b : Sx}, Go a b → a.H Da = some (.dK accV) → a.F Da = none → ¬ Own a Da → b.H Da = some (.dK accV) ∧ b.F Da = none ∧ ¬ Own b Da := fun {a b} g h1 h2 h3 => by
          refine ⟨g.kp _ _ h1 (fun _ z => by cases z) h3, ?_, fun z => (g.ow _ z).elim h3 fun y => by rw [y] at h1; cases h1⟩
          cases z : b.F Da with
          | none => rfl
          | some o =>
            rcases g.nw Da (by rw [z]; intro y; cases y) with y | y | y
            · exact absurd h2 y
            · rw [y] at h1; cases h1
            · exact absurd y.own h3
        obtain ⟨k1, k2, k3⟩ := keepD g2 d1 d3 d4
        intro s H0 Ca cl fp
        have step' := step i d acc S'.ρ hlt hd hI
        have cb := c.blk s H0 scope Ca cl fp (S'.to F2 S'.ρ H2)
        refine hg s H0 Ca cl fp (S'.to F2 S'.ρ H2) cb (S'.to F2 S'.ρ H2) d x _ _ ok2 (Go.refl _) rr step' fun S3 l3 o3 q3 ok3 g3 => ?_
        have ew : L2.wipe S3.σ vs = L2.wipe S.σ vs := by
          rw [wipe_eq (σ := (S'.to F2 S'.ρ H2).σ) l3 o3, eσ2]; exact wipe_wipe
        refine ⟨ew, ?_⟩
        intro s H0 Ca cl fp
        have cb := c.blk s H0 scope Ca cl fp S3
        have gw3 : Go Sw S3 := (g'.trans g2).trans g3
        obtain ⟨k1, k2, k3⟩ := keepD g3 k1 k2 k3
        have after : ∀ b F4 ρ4 H4, ((b = true → tk ρ4 fun rk ρk => keyO (fun ky => te ρk fun r ρ5 => rLcO (fun y ρ6 => acc.length < 16777216 ∧ I (i + 1) (putG acc ky y) (wip ρ6 vs)) (cl1 ρ5 r)) (rd ρk rk)) ∧ (b = false → I (i + 1) acc (wip ρ4 vs))) → Ok C.X.K C.T (S3.to F4 ρ4 H4) → Go S3 (S3.to F4 ρ4 H4) →
            (if b = true then bE C.X scope kx S3.σ H4 fun yk Hk => bE C.X scope elt S3.σ Hk fun y H5 => ∃ kvs ky, yk = kV ky ∧ H5 Da = some (.dK kvs) ∧ kvs.length < sizeLine ∧ (∃ S2 accV acc2, S2.σ = L2.wipe S.σ vs ∧ S2.H = upd H5 Da (.dK (putK kvs ky y)) ∧ I (i + 1) acc2 S2.ρ ∧ Ok C.X.K C.T S2 ∧ Go Sw S2 ∧ S2.H Da = some (.dK accV) ∧ KvR C.X.K S2.F accV acc2 ∧ S2.F Da = none ∧ ¬ Own S2 Da ∧ (∀ j s, j ∈ vs → S2.ρ[j]? = some s → s = .no))
              else ∃ S2 accV acc, S2.σ = L2.wipe S.σ vs ∧ S2.H = H4 ∧ I (i + 1) acc S2.ρ ∧ Ok C.X.K C.T S2 ∧ Go Sw S2 ∧ S2.H Da = some (.dK accV) ∧ KvR C.X.K S2.F accV acc ∧ S2.F Da = none ∧ ¬ Own S2 Da ∧ (∀ j s, j ∈ vs → S2.ρ[j]? = some s → s = .no)) := by
          intro b F4 ρ4 H4 q4 ok4 g4
          obtain ⟨k1, k2, k3⟩ := keepD g4 k1 k2 k3
          cases b with
          | false =>
            rw [if_neg Bool.false_ne_true]
            refine ⟨⟨F4, wip ρ4 vs, L2.wipe S3.σ vs, H4⟩, accV, acc, ew, rfl, q4.2 rfl, Ok.wip (S := S3.to F4 ρ4 H4) ok4, Go.wip (S0 := S1) (S := S3.to F4 ρ4 H4) (gw3.trans g4) ew, k1, d2.mono ((g2.trans g3).trans g4).g, k2, fun z => k3 (own_wip (S := S3.to F4 ρ4 H4) z), fun j s hj e => wip_in hj e⟩
          | true =>
            rw [if_pos rfl]
            intro s H0 Ca cl fp
            refine hk s H0 Ca cl fp (S3.to F4 ρ4 H4) (c.blk s H0 scope Ca cl fp _) (S3.to F4 ρ4 H4) _ _ ok4 (Go.refl _) (q4.1 rfl) fun rk vk Fk ρk Hk qk okk gk rrk => ?_
            obtain ⟨k1, k2, k3⟩ := keepD gk k1 k2 k3
            obtain ⟨dk, ky, ek, eky, qk⟩ := keyO_some qk
            have hv : Rp C.X.K Fk vk dk := (okk.rd rrk ek).val fun xs z => by rw [z] at eky; cases eky
            have evk := keyD_v hv eky
            intro s H0 Ca cl fp
            refine he s H0 Ca cl fp (S3.to Fk ρk Hk) (c.blk s H0 scope Ca cl fp _) (S3.to Fk ρk Hk) _ _ okk (Go.refl _) qk fun r v F5 ρ5 H5 q5 ok5 g5 r5 => ?_
            have q5 : rLcO (fun y ρ6 => acc.length < 16777216 ∧ I (i + 1) (putG acc ky y) (wip ρ6 vs)) (cl1 ρ5 r) := q5
            cases e1 : cl1 ρ5 r with
            | none => rw [e1] at q5; exact q5.elim
            | some pr =>
              rw [e1] at q5
              obtain ⟨dd, ρ6⟩ := pr
              obtain ⟨F6, ok6, g6, gF, r6⟩ := clean (S0 := S3.to Fk ρk Hk) (S := S3.to F5 ρ5 H5) ok5 g5 r5 e1
              have ok6 : Ok C.X.K C.T (S3.to F6 ρ6 H5) := ok6
              have g6 : Go (S3.to Fk ρk Hk) (S3.to F6 ρ6 H5) := g6
              obtain ⟨k1, k2, k3⟩ := keepD g6 k1 k2 k3
              have aR : KvR C.X.K F6 accV acc := d2.mono ((((g2.trans g3).trans g4).trans gk).trans g6).g
              refine ⟨accV, ky, evk, k1, by rw [kvr_len aR, sizeLine_eq]; exact q5.1, ⟨F6, wip ρ6 vs, L2.wipe S3.σ vs, upd H5 Da (.dK (putK accV ky v))⟩, putK accV ky v, putG acc ky dd, ew, rfl, q5.2, ?_, ?_, upd_same, kvr_put aR r6, k2, fun z => k3 (own_wip (S := S3.to F6 ρ6 (upd H5 Da (.dK (putK accV ky v)))) z), fun j s hj e => wip_in hj e⟩
              · exact Ok.wip (S := S3.to F6 ρ6 (upd H5 Da (.dK (putK accV ky v)))) (Ok.pokeK (S := S3.to F6 ρ6 H5) ok6 k2 k3 k1)
              · exact Go.wip (S0 := S1) (S := S3.to F6 ρ6 (upd H5 Da (.dK (putK accV ky v)))) (Go.pokeK (S := S3.to F6 ρ6 H5) (((gw3.trans g4).trans gk).trans g6) hD) ew
        rcases ht s H0 Ca cl fp S3 with ⟨e1, e2⟩ | ⟨e, e1, e2⟩
        · subst e1 e2
          intro pins s' I'
          refine pts_nil.run pins s' S3.σ S3.H _ I' ?_
          exact after true S3.F S3.ρ S3.H q3 ok3 (Go.refl _)
        · subst e1
          intro pins s' I'
          refine (pts_one pt_w).run pins s' S3.σ S3.H _ I' ?_
          exact e2 cb S3 _ _ ok3 (Go.refl _) q3 fun b F4 ρ4 H4 q4 ok4 g4 => after b F4 ρ4 H4 q4 ok4 g4
    · have e : i = its.n := by omega
      subst e
      refine .inl ⟨w2, ?_⟩
      obtain ⟨okb, gb, ownb⟩ := back (S1 := S1) ok1 ok' g' rfl d5
      refine k (.nob (.dk true acc)) (.ref Da) S'.F (unw ρ1 vs S'.ρ) S'.H (fin acc S'.ρ hI) okb (g1.trans gb) ⟨Da, _, rfl, g1.dom Da hD, d3, d1, ⟨accV, rfl, d2⟩, rfl, fun z => ?_⟩
      rcases ownb Da z with y | y
      · exact ok1.noOwn hD y
      · exact d4 y
theorem d_dc (hi : PId C tg iter ti) (bo : BlkOk C.X.N C.X.env.scope scope own)
    (hg : ∀ (s : Shared) (H : Hp) (Ca : Addr) (cl : List (Str × Addr)) (fp : List Addr) (S0 : Sx), PGx (C.blk s H scope Ca cl fp S0) (own.map (·.2)) tg g)
    (ht : ∀ (s : Shared) (H : Hp) (Ca : Addr) (cl : List (Str × Addr)) (fp : List Addr) (S0 : Sx), PIfd (C.blk s H scope Ca cl fp S0) ifs tt)
    (hk : ∀ (s : Shared) (H : Hp) (Ca : Addr) (cl : List (Str × Addr)) (fp : List Addr) (S0 : Sx), PEd (C.blk s H scope Ca cl fp S0) kx tk)
    (he : ∀ (s : Shared) (H : Hp) (Ca : Addr) (cl : List (Str × Addr)) (fp : List Addr) (S0 : Sx), PEd (C.blk s H scope Ca cl fp S0) elt te) (hs : ∀ x, foldedSetIterable iter C.X.env x = pure x := by intro _; rfl) :
    PEd C (.DictComp kx elt [⟨tg, iter, ifs, 0⟩] scope pos) (rDc (own.map (·.2)) ti g tt tk te) := fun c S Q Q' ok g0 h k =>
  wE.of (pe_dc c.calm c.nd pi_w bo bg_w bt_w be_w be_w hs) (dc_read hi hg ht hk he c S Q Q' ok g0 h k)
theorem isDc_ref {K : PySem.W.Frag} {T : Tz} {S : Sx} {j : Nat} (ok : Ok K T S) (h : isDc S.ρ[j]? = true) : ∃ p, S.σ[j]? = some (some (.ref p)) ∧ IsD S.H p := by
  cases e : S.ρ[j]? with
  | none => rw [e] at h; cases h
  | some s =>
    rw [e] at h
    cases s with
    | dt f kvs => obtain ⟨p, kvs', h1, h2, h3, h4⟩ := ok.slot j _ e; exact ⟨p, h1, .inr ⟨_, .inl h3⟩⟩
    | dk f kvs => obtain ⟨p, kvs', h1, h2, h3, h4⟩ := ok.slot j _ e; exact ⟨p, h1, .inl ⟨_, .inl h3⟩⟩
    | _ => cases h
/-- d.get(k), d a name -/
def rDGet1 (i : Nat) (ti : TEd) : TEd := fun ρ Q => isDc ρ[i]? = true ∧ ti ρ fun r ρ1 => dgetO ρ1[i]? (rd ρ1 r) fun o => Q (.val (o.getD .non)) ρ1
theorem d_dget1 (i : Nat) {x : Str} {ie : Expr} {tie : TEd} {p0 apos cpos : Pos} (hN : C.X.N[i]? = some x) (hv : Vis C.X.env.scope x) (hi : PEd C ie tie) (m : M1 C.X (.Name x p0) "get" apos ie cpos := by exact ⟨rfl, rfl, rfl, rfl⟩) (hd : (x == ("__debug__" : Str)) = false := by decide) (hcd : (x == ("__classdict__" : Str)) = false := by decide) :
    PEd C (.Call (.Attribute (.Name x p0) "get" apos) [ie] [] cpos) (rDGet1 i tie) := fun c S Q Q' ok g0 h k => by
  refine wE.of (pe_dget1 (units1 c) (pe_var hN hv hd hcd) pe_w m) ?_
  obtain ⟨h0, h⟩ := h
  obtain ⟨p0', hov, hisd⟩ := isDc_ref ok h0
  refine ⟨_, hov, p0', rfl, hisd, ?_⟩
  refine hi c S _ _ ok g0 h fun r y F1 ρ1 H1 q1 ok1 g1 r1 => ?_
  obtain ⟨p, o, o', e1, e2, q, e3⟩ := dget_ok (S := S.to F1 ρ1 H1) (y := y) ok1 q1 fun d' e => ok1.rd r1 e
  rw [show S.σ[i]? = some (some (.ref p)) from e1] at hov
  cases hov
  refine ⟨o, e2, ?_⟩
  rcases e3 with ⟨v, e, rfl, rfl, z3⟩ | ⟨rfl, rfl⟩
  · exact k _ _ F1 ρ1 H1 q ok1 g1 z3
  · exact k _ _ F1 ρ1 H1 q ok1 g1 .non
end
end DL
/-! tuples whose object is known: made so, joined, their methods; tuples as keys; forgotten -/
namespace DL
open PySem PySem.Spec PyProof.Rows L2
/-! ### made with their object -/
section
variable {X : Cx} {e : Expr} {es : List Expr} {te : TE} {t : TA} {pos : Pos}
def tTupX (t : TA) : TE := fun σ H Q => t σ H fun xs H1 => xs.length ≤ sizeLine ∧ ∀ (p : Addr) (ob : Obj), ob.cls = .type "tuple" → ob.dict = none → H1 p = none → Q (.ref p) (upd H1 p (.frz ob (.tup xs)))
theorem pe_tupX {x1} (h : PA X es t) : PE X (.Tuple es x1 pos) (tTupX t) := by
  refine ⟨fun pins s σ H Q I hq => ?_⟩
  refine wpAny_Tuple_spliced (thn (h.run pos pins s σ H _ I hq) fun us s1 ⟨xs, H1, I1, r, z, q⟩ => ⟨by rw [← r.length]; exact z, ?_⟩)
  have hf : H1 s1.heap.objs.size = none := I1.hok.fresh (Nat.le_refl _)
  refine ⟨.ref s1.heap.objs.size, upd H1 s1.heap.objs.size (.frz { cls := .type "tuple", data := .seq us.toArray } (.tup xs)), I1.laid (t' := s1.toks) (fun b u e => Heap.get?_push_of_some _ e) (Nat.le_refl _) ?_, rfl, q _ _ rfl rfl hf⟩
  exact ⟨Heap.get?_push_size _ rfl, z, us, r, ⟨_, Heap.get?_push_size _ rfl, rfl, _, rfl⟩⟩
theorem call_tupleX : CallR X (.type "tuple") (fun xs H Q => ∃ p ys, xs = [.ref p] ∧ SqL X.K H p ys ∧ ∀ (l : Addr) (ob : Obj), ob.cls = .type "tuple" → ob.dict = none → H l = none → Q (.ref l) (upd H l (.frz ob (.tup ys)))) := by
  intro pins s σ H xs us Q I r h
  obtain ⟨p, ys, rfl, hq, q⟩ := h
  obtain ⟨u, rfl, rx⟩ := vals1 r
  cases rx
  obtain ⟨its, r', pl, hz⟩ := I.list hq
  have hlen := r'.length
  refine call_tuple_list pl.isList (fun h' kp => ?_) (by simp only [List.size_toArray] <;> omega)
  have I1 : Inv X pins σ H { s with heap := h' } := I.kept (t' := s.toks) kp
  have I2 : Inv X pins σ (upd H h'.objs.size (.frz { cls := .type "tuple", data := .seq its.toArray } (.tup ys))) { s with heap := h'.push { cls := .type "tuple", data := .seq its.toArray } } :=
    I1.laid (t' := s.toks) (fun b o e => Heap.get?_push_of_some _ e) (Nat.le_refl _) (show ObjOk X.prog X.w _ _ _ (.frz _ (.tup ys)) from ⟨Heap.get?_push_size _ rfl, hz, its, r', IsTup.new _ _⟩)
  exact ⟨.ref h'.objs.size, _, I2, rfl, q _ _ rfl rfl (I1.hok.fresh (Nat.le_refl _))⟩
def rCatX (K : PySem.W.Frag) : R2 := fun x y H Q => ∃ a b xs ys, x = .ref a ∧ y = .ref b ∧ SqT K H a xs ∧ SqT K H b ys ∧ xs.length + ys.length ≤ sizeLine ∧
  (xs = [] → Q (.ref b) H) ∧ (xs ≠ [] → ys = [] → Q (.ref a) H) ∧ (xs ≠ [] → ys ≠ [] → ∀ (p : Addr) (ob : Obj), ob.cls = .type "tuple" → ob.dict = none → H p = none → Q (.ref p) (upd H p (.frz ob (.tup (xs ++ ys)))))
theorem op_catX : OpR X (binaryOp .Add) (rCatX X.K) := by
  intro pins s σ H x y v u Q I rx ry h
  obtain ⟨a, b, xs, ys, rfl, rfl, ha, hb, hz, q0, q1, q2⟩ := h
  cases rx
  cases ry
  obtain ⟨its, r1, p1, _⟩ := I.tuple ha
  obtain ⟨its2, r2, p2, _⟩ := I.tuple hb
  by_cases hx : xs = []
  · subst hx
    cases r1
    exact cat_tup0 p1 p2 ⟨.ref b, H, I, rfl, q0 rfl⟩
  · refine HT.cat_tup p1 p2 (fun z => hx (r1.nil_iff.mp z)) (fun z => ⟨.ref a, H, I, rfl, q1 hx (r2.nil_iff.mp z)⟩) (fun z => ?_) (by rw [← r1.length, ← r2.length]; exact hz)
    refine ⟨.ref s.heap.objs.size, _, I.laid (t' := s.toks) (o := .frz { cls := .type "tuple", data := .seq (its ++ its2).toArray } (.tup (xs ++ ys))) (fun b ob q => Heap.get?_push_of_some _ q) (Nat.le_refl _) ?_, rfl, q2 hx (fun w => z (r2.nil_iff.mpr w)) _ _ rfl rfl (I.hok.fresh (Nat.le_refl _))⟩
    exact ⟨Heap.get?_push_size _ rfl, by rw [List.length_append]; exact hz, _, r1.append r2, IsTup.new _ _⟩
end
section
variable {C : Cd} {e : Expr} {es : List Expr} {pos p2 : Pos} {te : TEd} {t : TAd}
/-- (a, b), its object known; and as a key -/
def rTupX (t : TAd) : TEd := fun ρ Q => t ρ fun rs ρ1 => match clL ρ1 rs with
  | some (ds, ρ2) => Q (.val (.tux true ds)) ρ2
  | none => False
def rTupK (t : TAd) : TEd := fun ρ Q => t ρ fun rs ρ1 => match clL ρ1 rs with
  | some (ds, ρ2) => Q (.val (.tux false ds)) ρ2
  | none => False
theorem d_tupX {x1} (h : PAd C es t) (hl : es.length ≤ 1000 := by decide) : PEd C (.Tuple es x1 pos) (rTupX t) := by
  intro c S Q Q' ok g0 q k
  refine wE.of (pe_tupX pa_w) ?_
  refine h c S _ _ ok g0 q fun rs vs F1 ρ1 H1 q1 ok1 g1 r1 hv => ?_
  refine ⟨Nat.le_trans (by rw [hv]; exact hl) (by decide), fun p ob o1 o2 hp => ?_⟩
  split at q1
  · rename_i ds ρ2 e
    obtain ⟨F2, ok2, g2, gF, rr⟩ := cleanL ok1 g1 r1 e
    exact fin_tux (C := C) (S := S.to F2 ρ2 H1) (Q := fun r => Q r ρ2) ok2 (fun r v F' H' qq okk gg rr => k r v F' ρ2 H' qq okk (g2.trans gg) (rr.start fun a z => g2.dom a z)) q1 rr hp o1 o2
  · exact q1.elim
theorem d_tupK {x1} (h : PAd C es t) (hl : es.length ≤ 1000 := by decide) : PEd C (.Tuple es x1 pos) (rTupK t) := by
  intro c S Q Q' ok g0 q k
  refine wE.of (pe_tup pa_w) ?_
  refine h c S _ _ ok g0 q fun rs vs F1 ρ1 H1 q1 ok1 g1 r1 hv => ?_
  refine ⟨Nat.le_trans (by rw [hv]; exact hl) (by decide), fun p hp => ?_⟩
  split at q1
  · rename_i ds ρ2 e
    obtain ⟨F2, ok2, g2, gF, rr⟩ := cleanL ok1 g1 r1 e
    exact fin_tupK (C := C) (S := S.to F2 ρ2 H1) (Q := fun r => Q r ρ2) ok2 (fun r v F' H' qq okk gg rr => k r v F' ρ2 H' qq okk (g2.trans gg) (rr.start fun a z => g2.dom a z)) q1 rr hp
  · exact q1.elim
def tupleXD : DCl
  | [.lst xs], Q => Q (.val (.tux true xs))
  | _, _ => False
theorem c_tupleX : CallD C (.type "tuple") tupleXD := by
  intro c S vs ds Q Q' ok hs h k
  unfold tupleXD at h
  split at h
  · obtain ⟨v, rfl, hv⟩ := hs.one
    obtain ⟨p, us, rfl, h1, r⟩ := hv.lst ok
    exact wC.of call_tupleX ⟨p, us, rfl, SqL.of h1, fun l ob o1 o2 hl => fin_tux ok k h r hl o1 o2⟩
  · exact h.elim
def tupleKD : DCl
  | [.lst xs], Q => Q (.val (.tux false xs))
  | _, _ => False
theorem c_tupleK : CallD C (.type "tuple") tupleKD := by
  intro c S vs ds Q Q' ok hs h k
  unfold tupleKD at h
  split at h
  · obtain ⟨v, rfl, hv⟩ := hs.one
    obtain ⟨p, us, rfl, h1, r⟩ := hv.lst ok
    exact wC.of call_tuple_of ⟨p, us, rfl, .inl ⟨SqL.of h1, fun l hl => fin_tupK ok k h r hl⟩⟩
  · exact h.elim
/-- t + u, both with their objects -/
def addXD : DOp
  | .tux true xs, .tux true ys, Q => xs.length + ys.length ≤ 16777216 ∧ Q (.val (.tux true (xs ++ ys)))
  | _, _, _ => False
theorem o_addX : OpD C (binaryOp .Add) addXD := by
  intro c S x y a b Q Q' ok ha hb h k
  unfold addXD at h
  split at h
  · rename_i xs ys
    obtain ⟨p, ob, vs, rfl, o1, o2, f1, h1, r1⟩ := ha.tux ok
    obtain ⟨q, ob2, us, rfl, o3, o4, f2, h2, r2⟩ := hb.tux ok
    refine wO.of op_catX ⟨p, q, vs, us, rfl, rfl, .inl (.inr ⟨_, h1⟩), .inl (.inr ⟨_, h2⟩), by rw [r1.length, r2.length, sizeLine_eq]; exact h.1, fun e => ?_, fun _ e => ?_, fun _ _ l ob o5 o6 hl => fin_tux ok k h.2 (r1.append r2) hl o5 o6⟩
    · subst e
      refine fin_val ok k h.2 ?_
      cases r1
      exact .tux f2 o3 o4 r2
    · subst e
      refine fin_val ok k h.2 ?_
      cases r2
      rw [List.append_nil]
      exact .tux f1 o1 o2 r1
  · exact h.elim
/-! ### forgotten -/
mutual
def wk : D → D
  | .tux _ xs => .tup (wks xs)
  | .tup xs => .tup (wks xs)
  | .lst xs => .lst (wks xs)
  | d => d
def wks : List D → List D
  | [] => []
  | d :: ds => wk d :: wks ds
end
section
variable {K : PySem.W.Frag} {F : Hp}
mutual
theorem Rp.wk : ∀ (d : D) (v : V), Rp K F v d → Rp K F v (DL.wk d)
  | .non, _, h => h
  | .bl b, _, h => h
  | .int b, _, h => h
  | .str b, _, h => h
  | .tup ds, _, h => by
    cases h with
    | tup hs ha => exact .tup hs (RpL.wk ds _ ha)
  | .lst ds, _, h => by
    cases h with
    | lst hs ha => exact .lst hs (RpL.wk ds _ ha)
  | .tux true ds, _, h => by
    cases h with
    | tux hs h1 h2 ha => exact .tup (.inr ⟨_, hs⟩) (RpL.wk ds _ ha)
  | .tux false ds, _, h => by
    cases h with
    | tuk hs ha => exact .tup (.inl hs) (RpL.wk ds _ ha)
  | .dic _ ds, _, h => h
  | .dik _ ds, _, h => h
  | .obj _ _ ds, _, h => h
theorem RpL.wk : ∀ (ds : List D) (vs : List V), RpL K F vs ds → RpL K F vs (wks ds)
  | [], _, h => by cases h; exact .nil
  | d :: ds, _, h => by
    cases h with
    | cons h1 h2 => exact .cons (Rp.wk d _ h1) (RpL.wk ds _ h2)
end
end
theorem wks_map : ∀ xs : List D, wks xs = xs.map wk
  | [] => rfl
  | d :: xs => by
    show wk d :: wks xs = wk d :: xs.map wk
    rw [wks_map xs]
/-- forgotten at the top alone -/
def wk1 : D → D
  | .tux _ xs => .tup xs
  | d => d
theorem Rp.wk1 {K : PySem.W.Frag} {F : Hp} {v : V} : ∀ {d : D}, Rp K F v d → Rp K F v (DL.wk1 d)
  | .tux true ds, h => by
    cases h with
    | tux hs h1 h2 ha => exact .tup (.inr ⟨_, hs⟩) ha
  | .tux false ds, h => by
    cases h with
    | tuk hs ha => exact .tup (.inl hs) ha
  | .non, h => h
  | .bl b, h => h
  | .int b, h => h
  | .str b, h => h
  | .tup ds, h => h
  | .lst ds, h => h
  | .dic _ ds, h => h
  | .dik _ ds, h => h
  | .obj _ _ ds, h => h
def wkR (f : D → D) (g : List D → List D) : Rv → Rv
  | .val d => .val (f d)
  | .new xs => .new (g xs)
  | r => r
def rWk (te : TEd) : TEd := fun ρ Q => te ρ fun r ρ1 => Q (wkR wk1 id r) ρ1
def rWkD (te : TEd) : TEd := fun ρ Q => te ρ fun r ρ1 => Q (wkR wk wks r) ρ1
theorem rvR_wk {K : PySem.W.Frag} {Hs : Hp} {S : Sx} {r : Rv} {v : V} {f : D → D} {g : List D → List D} (hf : ∀ F v d, Rp K F v d → Rp K F v (f d)) (hg : ∀ F vs ds, RpL K F vs ds → RpL K F vs (g ds)) (h : rvR K Hs S r v) : rvR K Hs S (wkR f g r) v := by
  cases r with
  | val d => exact hf _ _ _ h
  | own i => exact h
  | new xs => obtain ⟨p, vs, h1, h2, h3, h4, h5, h6⟩ := h; exact ⟨p, vs, h1, h2, h3, h4, hg _ _ _ h5, h6⟩
  | nob s => exact h
theorem d_wk (h : PEd C e te) : PEd C e (rWk te) := fun c S Q Q' ok g0 q k =>
  h c S _ Q' ok g0 q fun r v F1 ρ1 H1 q1 ok1 g1 r1 => k _ v F1 ρ1 H1 q1 ok1 g1 (rvR_wk (fun _ _ _ h => h.wk1) (fun _ _ _ h => h) r1)
theorem d_wkD (h : PEd C e te) : PEd C e (rWkD te) := fun c S Q Q' ok g0 q k =>
  h c S _ Q' ok g0 q fun r v F1 ρ1 H1 q1 ok1 g1 r1 => k _ v F1 ρ1 H1 q1 ok1 g1 (rvR_wk (fun _ _ d h => Rp.wk d _ h) (fun _ _ ds h => RpL.wk ds _ h) r1)
end
/-! ### t.index(x) -/
section
variable {X : Cx} {o e : Expr} {es : List Expr} {to : TE} {t : TA} {name : Str} {apos cpos : Pos} {T id : String} {r : V → List V → Hp → VK → Prop}
def tyX (x : V) (H : Hp) : Prop := ∃ (p : Addr) (ob : Obj) (xs : List V), x = .ref p ∧ H p = some (.frz ob (.tup xs)) ∧ ob.cls = .type "tuple" ∧ ob.dict = none
def tBMX (r : V → List V → Hp → VK → Prop) (to : TE) (t : TA) : TE := fun σ H Q => to σ H fun x H1 => tyX x H1 ∧ t σ H1 fun xs H2 => r x xs H2 Q
theorem pe_bmX (pa : PlainAttrs "tuple") (slot : Slot "tuple" name id) (hty : typeOf (.builtin id) = pure (.type "method_descriptor")) (hm : MtR X id r) (ho : PE X o to) (ha : PA X (e :: es) t)
    (hbase : attributeBase o name X.env (eval o X.env) = eval o X.env := by rfl)
    (hfew : ((backTo cpos (starEach (e :: es) X.env)).all (fun x => !x.1) && (backToKw cpos (keywordEach [] X.env)).all (fun x => x.1.isSome)
      && decide ((e :: es).length + ([] : List Keyword).length + (if ([] : List Keyword).isEmpty then 0 else 1) < 30)) = true := by rfl)
    (hline : (apos.endLine == cpos.line) = true := by rfl) (hs : starEach (e :: es) X.env = (false, eval e X.env) :: starEach es X.env := by rfl) (hplain : (backTo cpos (starEach es X.env)).any (·.1) = false := by rfl) :
    PE X (.Call (.Attribute o name apos) (e :: es) [] cpos) (tBMX r to t) := by
  refine ⟨fun pins s σ H Q I h => ?_⟩
  refine wpAny_Call_method_late hbase hfew hline rfl (thn (ho.run pins s σ H _ I h) fun v s1 ⟨x, H1, I1, r1, ⟨p, ob, ys, hx, hp, o1, o2⟩, q1⟩ => ?_)
  subst hx
  cases r1
  obtain ⟨hob, _⟩ := (show ObjOk X.prog X.w H1 s1.heap p (.frz ob (.tup ys)) from I1.hok p _ hp)
  refine ⟨"tuple", id, pa, slot, hty, ⟨ob, hob, o1⟩, fun a e => by cases e; exact ⟨ob, hob, o2⟩, ?_⟩
  have hA := ha.run cpos pins s1 σ H1 _ I1 q1
  rw [hs] at hA ⊢
  refine Calls.callWith_builtin (by show (false || (backTo cpos (starEach es X.env)).any (·.1)) = false; rw [hplain] <;> rfl) (Calls.evalArgs_plain ?_)
  exact thn hA fun us s2 ⟨vs, H2, I2, r2, q2⟩ => hm pins s2 σ H2 (.ref p) vs (.ref p) us Q I2 rfl r2 q2
def rTIdx (K : PySem.W.Frag) : V → List V → Hp → VK → Prop := fun x xs H Q => ∃ (p : Addr) (ns : List Int) (k : Int), x = .ref p ∧ xs = [.int k] ∧ SqT K H p (ns.map V.int) ∧ k ∈ ns ∧ Q (.int (ns.idxOf k : Nat)) H
theorem mt_tidx : MtR X "tuple.index" (rTIdx X.K) := by
  intro pins s σ H x xs v us Q I rx rs h
  obtain ⟨p, ns, k, rfl, rfl, hq, hk, q⟩ := h
  cases rx
  obtain ⟨u, rfl, t, rfl⟩ := vals1 rs
  obtain ⟨its, r, pl, hz⟩ := I.tuple hq
  exact SeqAt.tuple_index_ints pl (intsAre_of r) hk ⟨.int _, H, I.tok _, ⟨_, rfl⟩, q⟩
end
section
variable {C : Cd}
def tidxO (xs : List D) (Q : Rv → List Sl → Prop) (ρ : List Sl) : Option (List D) → Prop
  | some [.int k] => ∃ ns : List Int, xs = ns.map .int ∧ k ∈ ns ∧ Q (.val (.int (ns.idxOf k : Nat))) ρ
  | _ => False
def tidxR (ta : TAd) (Q : Rv → List Sl → Prop) (ρ : List Sl) : Option D → Prop
  | some (.tux true xs) => ta ρ fun rs ρ1 => tidxO xs Q ρ1 (rdL ρ1 rs)
  | _ => False
/-- t.index(k): a tuple of ints whose object is known -/
def rTIx (to : TEd) (ta : TAd) : TEd := fun ρ Q => to ρ fun r ρ1 => tidxR ta Q ρ1 (rd ρ1 r)
theorem d_tidx {o a : Expr} {as : List Expr} {to : TEd} {ta : TAd} {apos cpos : Pos} (ho : PEd C o to) (ha : PAd C (a :: as) ta)
    (hbase : attributeBase o "index" C.X.env (eval o C.X.env) = eval o C.X.env := by rfl)
    (hfew : ((backTo cpos (starEach (a :: as) C.X.env)).all (fun x => !x.1) && (backToKw cpos (keywordEach [] C.X.env)).all (fun x => x.1.isSome)
      && decide ((a :: as).length + ([] : List Keyword).length + (if ([] : List Keyword).isEmpty then 0 else 1) < 30)) = true := by rfl)
    (hline : (apos.endLine == cpos.line) = true := by rfl) (hs : starEach (a :: as) C.X.env = (false, eval a C.X.env) :: starEach as C.X.env := by rfl) (hplain : (backTo cpos (starEach as C.X.env)).any (·.1) = false := by rfl) :
    PEd C (.Call (.Attribute o "index" apos) (a :: as) [] cpos) (rTIx to ta) := fun c S Q Q' ok g0 h kk => by
  refine wE.of (pe_bmX PySem.F.plainAttrs_tuple PySem.F.slot_tuple_index PySem.F.type_tuple_index mt_tidx pe_w pa_w hbase hfew hline hs hplain) ?_
  refine ho c S _ _ ok g0 h fun r v F1 ρ1 H1 q1 ok1 g1 r1 => ?_
  have q1 : tidxR ta Q ρ1 (rd ρ1 r) := q1
  unfold tidxR at q1
  split at q1
  · rename_i xs e1
    obtain ⟨p, ob, vs, rfl, o1, o2, f1, h1, rr⟩ := (ok1.rd r1 e1).tux ok1
    refine ⟨⟨p, ob, vs, rfl, h1, o1, o2⟩, ?_⟩
    refine ha c (S.to F1 ρ1 H1) _ _ ok1 (g0.trans g1) q1 fun rs ws F2 ρ2 H2 q2 ok2 g2 r2 _ => ?_
    have q2 : tidxO xs Q ρ2 (rdL ρ2 rs) := q2
    unfold tidxO at q2
    split at q2
    · rename_i k e2
      obtain ⟨ns, rfl, hk, q⟩ := q2
      obtain ⟨w, rfl, hw⟩ := (ok2.rdL r2 e2).one
      have e3 := rr.ints
      subst e3
      exact ⟨p, ns, k, rfl, by rw [hw.int], .inl (.inr ⟨_, ok2.sub _ _ (g2.g _ _ f1 (fun _ z => by cases z))⟩), hk, kk (.val (.int (ns.idxOf k : Nat))) _ F2 ρ2 H2 q ok2 (g1.trans g2) (.int _)⟩
    · exact q2.elim
  · exact q1.elim
end
end DL
namespace KB
open PySem PySem.Spec PyProof.Rows L2 DL
def t_is_whole (R : Er → List Sl → Prop) : TSd :=
    (rRet (rAnd (rIsi .tInt (rVar 0)) (rNot (rIsi .tBool (rVar 0)))))
def t_is_within (sp_is_whole : DSp) (R : Er → List Sl → Prop) : TSd :=
    (rRet (rAnd (rCall R sp_is_whole (rCons (rVar 0) rNil)) (rChain leD leD (rVar 1) (rVar 0) (rVar 2))))
def t_is_match (sp_is_within : DSp) (R : Er → List Sl → Prop) : TSd :=
    (rSeq (rIfS (rOrT (rNotT (rTst (rIsi .tTup (rVar 1)))) (rOrT (rTst (rBin (eqD true) (rCB lenD (rCons (rVar 1) rNil)) (rC (.int 2)))) (rNotT (rTst (rCB allD (rCons (rLc [2] (iSeq (rVar 1)) (gNm 2) (fun ρ Q => Q true ρ) (rCall noR sp_is_within (rCons (rVar 2) (rCons (rC (.int 0)) (rCons (rBin subD (rVar 0) (rC (.int 1))) rNil))))) rNil)))))) (rRet (rC (.bl false))) rNext)
      (rRet (rBin (eqD true) (rBin ixD (rVar 1) (rC (.int 0))) (rBin ixD (rVar 1) (rC (.int 1))))))
def t_is_cup (sp_is_match : DSp) (sp_is_within : DSp) (R : Er → List Sl → Prop) : TSd :=
    (rSeq (rIfS (rOrT (rNotT (rTst (rIsi .tTup (rVar 0)))) (rOrT (rTst (rBin (eqD true) (rCB lenD (rCons (rVar 0) rNil)) (rC (.int 2)))) (rNotT (rTst (rCall R sp_is_within (rCons (rBin ixD (rVar 0) (rC (.int 0))) (rCons (rC (.int 1)) (rCons (rC (.int 10)) rNil)))))))) (rRet (rC (.bl false))) rNext)
      (rSeq (rAsg (rVar 0) (gTp 2 (gCn (gNm 2) (gCn (gNm 3) gNl))))
      (rSeq (rIfS (rOrT (rNotT (rTst (rIsi .tTup (rVar 3)))) (rNotT (rTst (rCB allD (rCons (rLc [6] (iSeq (rVar 3)) (gNm 6) (fun ρ Q => Q true ρ) (rCall noR sp_is_match (rCons (rVar 2) (rCons (rVar 6) rNil)))) rNil))))) (rRet (rC (.bl false))) rNext)
      (rSeq (rSetDK 1)
      (rSeq (rFor (iSeq (rVar 3)) (gTp 2 (gCn (gNm 4) (gCn (gNm 5) gNl))) (rSeq (rIfS (rOrT (rTst (rDIn id 1 (rVar 4))) (rTst (rDIn id 1 (rVar 5)))) (rRet (rC (.bl false))) rNext)
      (rDPut 1 (rVar 5) (rC (.bl true)))))
      (rRet (rC (.bl true))))))))
def t_look_at_cup (a_NoCup : Addr) (sp_is_cup : DSp) (R : Er → List Sl → Prop) : TSd :=
    (rIfS (rNotT (rTst (rCall R sp_is_cup (rCons (rVar 0) rNil)))) (rRaise R a_NoCup) rNext)
def t_look_at_player (a_NoPlayer : Addr) (sp_is_within : DSp) (R : Er → List Sl → Prop) : TSd :=
    (rIfS (rNotT (rTst (rCall R sp_is_within (rCons (rVar 1) (rCons (rC (.int 0)) (rCons (rBin subD (rBin ixD (rVar 0) (rC (.int 0))) (rC (.int 1))) rNil)))))) (rRaise R a_NoPlayer) rNext)
def t_beaters (R : Er → List Sl → Prop) : TSd :=
    (rRet (rDc [1, 2] (iSeq (rBin ixD (rVar 0) (rC (.int 1)))) (gTp 2 (gCn (gNm 1) (gCn (gNm 2) gNl))) (fun ρ Q => Q true ρ) (rVar 2) (rVar 1)))
def t_weaker_so (R : Er → List Sl → Prop) : TSd :=
    (rSeq (rSet 2 (rLst rNil))
      (rSeq (rFor (iSeq (rRev (rBin ixD (rVar 0) (rC (.int 1))))) (gTp 2 (gCn (gNm 3) (gCn (gNm 4) gNl))) (rIfS (rOrT (rTst (rBin (eqD false) (rVar 3) (rVar 1))) (rTst (rBin (inD false) (rVar 3) (rVar 2)))) (rDrop (rMet 2 appF (rCons (rVar 4) rNil))) rNext))
      (rRet (rCB sorted2D (rCons (rVar 2) rNil)))))
def t_weaker (sp_weaker_so : DSp) (sp_look_at_player : DSp) (sp_look_at_cup : DSp) (R : Er → List Sl → Prop) : TSd :=
    (rSeq (rDrop (rCall R sp_look_at_cup (rCons (rVar 0) rNil)))
      (rSeq (rDrop (rCall R sp_look_at_player (rCons (rVar 0) (rCons (rVar 1) rNil))))
      (rRet (rCall R sp_weaker_so (rCons (rVar 0) (rCons (rVar 1) rNil))))))
def t_comes_up (R : Er → List Sl → Prop) : TSd :=
    (rSeq (rFor (iRng (rCons (rCB lenD (rCons (rVar 0) rNil)) rNil)) (gNm 2) (rSeq (rIfS (rTst (rBin (isN false) (rBin ixD (rVar 0) (rVar 1)) (rC .non))) (rRet (rC (.bl true))) rNext)
      (rSet 1 (rBin ixD (rVar 0) (rVar 1)))))
      (rRet (rC (.bl false))))
def t_is_field (sp_comes_up : DSp) (sp_is_within : DSp) (R : Er → List Sl → Prop) : TSd :=
    (rSeq (rIfS (rOrT (rNotT (rTst (rIsi .tTup (rVar 0)))) (rNotT (rTst (rChain leD leD (rC (.int 1)) (rCB lenD (rCons (rVar 0) rNil)) (rC (.int 60)))))) (rRet (rC (.bl false))) rNext)
      (rSeq (rIfS (rNotT (rTst (rCB allD (rCons (rLc [2] (iSeq (rVar 0)) (gNm 2) (fun ρ Q => Q true ρ) (rOr (rBin (isN false) (rVar 2) (rC .non)) (rCall noR sp_is_within (rCons (rVar 2) (rCons (rC (.int 0)) (rCons (rBin subD (rCB lenD (rCons (rVar 0) rNil)) (rC (.int 1))) rNil)))))) rNil)))) (rRet (rC (.bl false))) rNext)
      (rRet (rCB allD (rCons (rLc [1] (iRng (rCons (rCB lenD (rCons (rVar 0) rNil)) rNil)) (gNm 1) (fun ρ Q => Q true ρ) (rCall noR sp_comes_up (rCons (rVar 0) (rCons (rVar 1) rNil)))) rNil)))))
def t_look_at_field (a_NoField : Addr) (sp_is_field : DSp) (R : Er → List Sl → Prop) : TSd :=
    (rIfS (rNotT (rTst (rCall R sp_is_field (rCons (rVar 0) rNil)))) (rRaise R a_NoField) rNext)
def t_look_at_one (a_NoPlayer : Addr) (sp_is_within : DSp) (R : Er → List Sl → Prop) : TSd :=
    (rIfS (rNotT (rTst (rCall R sp_is_within (rCons (rVar 1) (rCons (rC (.int 0)) (rCons (rBin subD (rCB lenD (rCons (rVar 0) rNil)) (rC (.int 1))) rNil)))))) (rRaise R a_NoPlayer) rNext)
def t_field_of (sp_beaters : DSp) (sp_look_at_cup : DSp) (R : Er → List Sl → Prop) : TSd :=
    (rSeq (rDrop (rCall R sp_look_at_cup (rCons (rVar 0) rNil)))
      (rSeq (rSet 1 (rCall R sp_beaters (rCons (rVar 0) rNil)))
      (rRet (rCB tupleD (rCons (rLc [2] (iRng (rCons (rBin ixD (rVar 0) (rC (.int 0))) rNil)) (gNm 2) (fun ρ Q => Q true ρ) (rDGet1 1 (rVar 2))) rNil)))))
def t_way_up (sp_way_up : DSp) (R : Er → List Sl → Prop) : TSd :=
    (rSeq (rSet 2 (rBin ixD (rVar 0) (rVar 1)))
      (rRet (rIf (rTst (rBin (isN false) (rVar 2) (rC .non))) (rLst (rCons (rVar 1) rNil)) (rBin addD (rLst (rCons (rVar 1) rNil)) (rCall R sp_way_up (rCons (rVar 0) (rCons (rVar 2) rNil)))))))
def t_sizes_of (sp_part_of : DSp) (R : Er → List Sl → Prop) : TSd :=
    (rRet (rLc [1] (iRng (rCons (rCB lenD (rCons (rVar 0) rNil)) rNil)) (gNm 1) (fun ρ Q => Q true ρ) (rCB lenD (rCons (rCall noR sp_part_of (rCons (rVar 0) (rCons (rVar 1) rNil))) rNil))))
def t_part_sizes (sp_sizes_of : DSp) (sp_look_at_field : DSp) (R : Er → List Sl → Prop) : TSd :=
    (rSeq (rDrop (rCall R sp_look_at_field (rCons (rVar 0) rNil)))
      (rRet (rCall R sp_sizes_of (rCons (rVar 0) rNil))))
def t_under (R : Er → List Sl → Prop) : TSd :=
    (rRet (rLc [2, 3] (iEnm (rCons (rVar 0) rNil)) (gTp 2 (gCn (gNm 2) (gCn (gNm 3) gNl))) (rTst (rBin (eqD false) (rVar 3) (rVar 1))) (rVar 2)))
def t_directly_under (sp_under : DSp) (sp_look_at_one : DSp) (sp_look_at_field : DSp) (R : Er → List Sl → Prop) : TSd :=
    (rSeq (rDrop (rCall R sp_look_at_field (rCons (rVar 0) rNil)))
      (rSeq (rDrop (rCall R sp_look_at_one (rCons (rVar 0) (rCons (rVar 1) rNil))))
      (rRet (rCall R sp_under (rCons (rVar 0) (rCons (rVar 1) rNil))))))
def t_part_of (sp_way_up : DSp) (R : Er → List Sl → Prop) : TSd :=
    (rRet (rLc [2] (iRng (rCons (rCB lenD (rCons (rVar 0) rNil)) rNil)) (gNm 2) (rTst (rBin (inD false) (rVar 1) (rCall noR sp_way_up (rCons (rVar 0) (rCons (rVar 2) rNil))))) (rVar 2)))
def t__law_well (R : Er → List Sl → Prop) : TSd :=
    (rSeq (rIfS (rTst (rBin geD (rVar 0) (rBin powD (rC (.int 10)) (rC (.int 18))))) (rRet (rLst (rCons (rBin subD (rVar 0) (rBin powD (rC (.int 10)) (rC (.int 18)))) (rCons (rBin modD (rVar 0) (rC (.int 2305843009213693951))) (rCons (rVar 1) rNil))))) rNext)
      (rRet (rLst (rCons (rC (.int 0)) (rCons (rBin modD (rVar 0) (rC (.int 2305843009213693951))) (rCons (rVar 1) rNil))))))
def t__law_take (R : Er → List Sl → Prop) : TSd :=
    (rBag 0 (rSeq (rIfS (rTst (rBin gtD (rBin ixD (rVar 0) (rC (.int 0))) (rC (.int 0)))) (rSeq (rSet 4 (rBin modD (rBin ixD (rVar 0) (rC (.int 0))) (rVar 1)))
      (rSeq (rSto 0 (rC (.int 0)) (rBin divD (rBin ixD (rVar 0) (rC (.int 0))) (rVar 1)))
      (rRet (rVar 4)))) rNext)
      (rSeq (rSto 0 (rC (.int 2)) (rBin addD (rBin ixD (rVar 0) (rC (.int 2))) (rC (.int 1))))
      (rSeq (rSet 2 (rC (.int 2305843009213693951)))
      (rSeq (rSet 3 (rBin modD (rBin addD (rBin ixD (rVar 0) (rC (.int 1))) (rBin mulD (rC (.int 1000003)) (rBin ixD (rVar 0) (rC (.int 2))))) (rVar 2)))
      (rSeq (rSet 3 (rBin modD (rBin addD (rBin addD (rBin mulD (rVar 3) (rVar 3)) (rBin mulD (rC (.int 7919)) (rBin powD (rBin ixD (rVar 0) (rC (.int 2))) (rC (.int 2))))) (rC (.int 5))) (rVar 2)))
      (rRet (rBin modD (rBin divD (rBin modD (rBin powD (rVar 3) (rC (.int 3))) (rVar 2)) (rC (.int 13))) (rVar 1)))))))))
def t__law_bags (sp__law_well : DSp) (R : Er → List Sl → Prop) : TSd :=
    (rRet (rLc [2, 3] (iEnm (rCons (rBin addD (rSl (rVar 0) rNoP (rPt (rVar 1))) (rLst (rCons (rC (.int 0)) rNil))) rNil)) (gTp 2 (gCn (gNm 2) (gCn (gNm 3) gNl))) (fun ρ Q => Q true ρ) (rCall noR sp__law_well (rCons (rVar 3) (rCons (rBin mulD (rC (.int 977)) (rVar 2)) rNil)))))
def t__law_same (sp__law_same : DSp) (R : Er → List Sl → Prop) : TSd :=
    (rSeq (rIfS (rOrT (rAndT (rTst (rIsi .tLst (rVar 0))) (rTst (rIsi .tLst (rVar 1)))) (rAndT (rTst (rIsi .tTup (rVar 0))) (rTst (rIsi .tTup (rVar 1))))) (rRet (rAnd (rBin (eqD false) (rCB lenD (rCons (rVar 0) rNil)) (rCB lenD (rCons (rVar 1) rNil))) (rCB allD (rCons (rLc [2, 3] (iZp (rCons (rVar 0) (rCons (rVar 1) rNil))) (gTp 2 (gCn (gNm 2) (gCn (gNm 3) gNl))) (fun ρ Q => Q true ρ) (rCall noR sp__law_same (rCons (rVar 2) (rCons (rVar 3) rNil)))) rNil)))) rNext)
      (rSeq (rIfS (rOrT (rTst (rIsiT [.tBool, .tLst, .tTup] (rVar 0))) (rTst (rIsiT [.tBool, .tLst, .tTup] (rVar 1)))) (rRet (rAnd (rIsi .tBool (rVar 0)) (rAnd (rIsi .tBool (rVar 1)) (rBin (eqD false) (rVar 0) (rVar 1))))) rNext)
      (rSeq (rIfS (rOrT (rTst (rIsi .tInt (rVar 0))) (rTst (rIsi .tInt (rVar 1)))) (rRet (rAnd (rIsi .tInt (rVar 0)) (rAnd (rIsi .tInt (rVar 1)) (rBin (eqD false) (rVar 0) (rVar 1))))) rNext)
      (rSeq (rIfS (rOrT (rTst (rIsi .tStr (rVar 0))) (rTst (rIsi .tStr (rVar 1)))) (rRet (rAnd (rIsi .tStr (rVar 0)) (rAnd (rIsi .tStr (rVar 1)) (rBin (eqD false) (rVar 0) (rVar 1))))) rNext)
      (rRet (rAnd (rBin (isN false) (rVar 0) (rC .non)) (rBin (isN false) (rVar 1) (rC .non))))))))
def t__law_field (sp__law_take : DSp) (R : Er → List Sl → Prop) : TSd :=
    (rSeq (rPar 6 7 (rBin addD (rC (.int 1)) (rCallB R sp__law_take (rCons (rVar 0) (rCons (rVar 1) rNil)))) (rCallB R sp__law_take (rCons (rVar 0) (rCons (rC (.int 6)) rNil))))
      (rSeq (rSet 2 (rLst rNil))
      (rSeq (rFor (iRng (rCons (rVar 6) rNil)) (gNm 3) (rDrop (rMet 2 insF (rCons (rCallB R sp__law_take (rCons (rVar 0) (rCons (rBin addD (rCB lenD (rCons (rVar 2) rNil)) (rC (.int 1))) rNil))) (rCons (rVar 3) rNil)))))
      (rSeq (rSet 4 (rBin mulD (rLst (rCons (rC .non) rNil)) (rVar 6)))
      (rSeq (rFor (iRng (rCons (rC (.int 1)) (rCons (rVar 6) rNil))) (gNm 5) (rSeq (rSet 8 (rLst (rCons (rBin subD (rVar 5) (rC (.int 1))) (rCons (rC (.int 0)) (rCons (rCB max2D (rCons (rC (.int 0)) (rCons (rBin subD (rBin subD (rVar 5) (rC (.int 1))) (rCallB R sp__law_take (rCons (rVar 0) (rCons (rC (.int 3)) rNil)))) rNil))) (rCons (rBin divD (rBin subD (rVar 5) (rC (.int 1))) (rC (.int 2))) rNil))))))
      (rSeq (rSet 9 (rBin ixD (rBin addD (rVar 8) (rLst (rCons (rCallB R sp__law_take (rCons (rVar 0) (rCons (rVar 5) rNil))) (rCons (rCallB R sp__law_take (rCons (rVar 0) (rCons (rVar 5) rNil))) rNil)))) (rVar 7)))
      (rIfS (rOrT (rTst (rBin ltD (rVar 7) (rC (.int 2)))) (rTst (rBin gtD (rCallB R sp__law_take (rCons (rVar 0) (rCons (rBin ixD (rLst (rCons (rC (.int 9)) (rCons (rC (.int 9)) (rCons (rC (.int 9)) (rCons (rC (.int 6)) (rCons (rC (.int 5)) (rCons (rC (.int 2)) rNil))))))) (rVar 7)) rNil))) (rC (.int 0))))) (rSto 4 (rBin ixD (rVar 2) (rVar 5)) (rBin ixD (rVar 2) (rVar 9))) rNext))))
      (rRet (rCB tupleD (rCons (rVar 4) rNil))))))))
def t__law_way (R : Er → List Sl → Prop) : TSd :=
    (rSeq (rSet 2 (rLst (rCons (rVar 1) rNil)))
      (rSeq (rWhile (rTst (rBin (isN true) (rBin ixD (rVar 0) (rBin ixD (rVar 2) (rNeg (rC (.int 1))))) (rC .non))) (rDrop (rMet 2 appF (rCons (rBin ixD (rVar 0) (rBin ixD (rVar 2) (rNeg (rC (.int 1))))) rNil))))
      (rRet (rVar 2))))
def t__law_sizes_2 (sp__law_way : DSp) (R : Er → List Sl → Prop) : TSd :=
    (rSeq (rSet 1 (rBin mulD (rLst (rCons (rC (.int 0)) rNil)) (rCB lenD (rCons (rVar 0) rNil))))
      (rSeq (rFor (iRng (rCons (rCB lenD (rCons (rVar 0) rNil)) rNil)) (gNm 2) (rFor (iSeq (rCall R sp__law_way (rCons (rVar 0) (rCons (rVar 2) rNil)))) (gNm 3) (rSto 1 (rVar 3) (rBin addD (rBin ixD (rVar 1) (rVar 3)) (rC (.int 1))))))
      (rRet (rVar 1))))
def t__law_direct (R : Er → List Sl → Prop) : TSd :=
    (rRet (rLc [2, 3] (iEnm (rCons (rVar 0) rNil)) (gTp 2 (gCn (gNm 2) (gCn (gNm 3) gNl))) (rTst (rBin (eqD false) (rVar 3) (rVar 1))) (rVar 2)))
def t__law_is_field (R : Er → List Sl → Prop) : TSd :=
    (rSeq (rIfS (rOrT (rNotT (rTst (rIsi .tTup (rVar 0)))) (rNotT (rTst (rChain leD leD (rC (.int 1)) (rCB lenD (rCons (rVar 0) rNil)) (rC (.int 60)))))) (rRet (rC (.bl false))) rNext)
      (rSeq (rFor (iEnm (rCons (rVar 0) rNil)) (gTp 2 (gCn (gNm 1) (gCn (gNm 2) gNl))) (rIfS (rTst (rBin (isN true) (rVar 2) (rC .non))) (rIfS (rOrT (rNotT (rTst (rIsi .tInt (rVar 2)))) (rOrT (rTst (rIsi .tBool (rVar 2))) (rNotT (rTst (rChain leD ltD (rC (.int 0)) (rVar 2) (rCB lenD (rCons (rVar 0) rNil))))))) (rRet (rC (.bl false))) rNext) rNext))
      (rSeq (rFor (iRng (rCons (rCB lenD (rCons (rVar 0) rNil)) rNil)) (gNm 1) (rSeq (rSet 3 (rC (.int 0)))
      (rWhile (rTst (rBin (isN true) (rBin ixD (rVar 0) (rVar 1)) (rC .non))) (rSeq (rPar 1 3 (rBin ixD (rVar 0) (rVar 1)) (rBin addD (rVar 3) (rC (.int 1))))
      (rIfS (rTst (rBin gtD (rVar 3) (rCB lenD (rCons (rVar 0) rNil)))) (rRet (rC (.bl false))) rNext)))))
      (rRet (rC (.bl true))))))
def t__law_bent (sp__law_take : DSp) (R : Er → List Sl → Prop) : TSd :=
    (rSeq (rSet 2 (rCallB R sp__law_take (rCons (rVar 0) (rCons (rCB lenD (rCons (rVar 1) rNil)) rNil))))
      (rSeq (rSet 3 (rBin ixD (rLst (rCons (rVar 2) (rCons (rNeg (rC (.int 1))) (rCons (rCB lenD (rCons (rVar 1) rNil)) (rCons (rC (.bl true)) (rCons (rC (.str "0")) (rCons (rTup (rCons (rC (.int 0)) rNil)) (rCons (rCallB R sp__law_take (rCons (rVar 0) (rCons (rCB lenD (rCons (rVar 1) rNil)) rNil))) (rCons (rC .non) rNil))))))))) (rCallB R sp__law_take (rCons (rVar 0) (rCons (rC (.int 8)) rNil)))))
      (rSeq (rSet 4 (rLst (rCons (rBin addD (rBin addD (rSl (rVar 1) rNoP (rPt (rVar 2))) (rTup (rCons (rVar 3) rNil))) (rSl (rVar 1) (rPt (rBin addD (rVar 2) (rC (.int 1)))) rNoP)) (rCons (rBin addD (rSl (rVar 1) rNoP (rPt (rVar 2))) (rSl (rVar 1) (rPt (rBin addD (rVar 2) (rC (.int 1)))) rNoP)) (rCons (rCB listD (rCons (rVar 1) rNil)) (rCons (rBin addD (rVar 1) (rSl (rVar 1) rNoP (rPt (rC (.int 1))))) rNil))))))
      (rRet (rBin ixD (rVar 4) (rCB max2D (rCons (rC (.int 0)) (rCons (rBin subD (rCallB R sp__law_take (rCons (rVar 0) (rCons (rC (.int 7)) rNil))) (rC (.int 3))) rNil))))))))
def t__law_cup_2 (sp__law_take : DSp) (R : Er → List Sl → Prop) : TSd :=
    (rSeq (rSet 1 (rBin addD (rC (.int 1)) (rCallB R sp__law_take (rCons (rVar 0) (rCons (rC (.int 10)) rNil)))))
      (rSeq (rPar 3 4 (rLRg (rC (.int 0)) (rVar 1)) (rTup rNil))
      (rSeq (rFor (iRng (rCons (rCallB R sp__law_take (rCons (rVar 0) (rCons (rVar 1) rNil))) rNil)) (gNm 2) (rSeq (rSet 5 (rMet 3 popAtF (rCons (rCallB R sp__law_take (rCons (rVar 0) (rCons (rCB lenD (rCons (rVar 3) rNil)) rNil))) rNil)))
      (rSeq (rIfS (rTst (rBin (eqD true) (rVar 3) (rLst rNil))) (rSet 4 (rBin addD (rVar 4) (rTup (rCons (rTup (rCons (rVar 5) (rCons (rMet 3 popAtF (rCons (rCallB R sp__law_take (rCons (rVar 0) (rCons (rCB lenD (rCons (rVar 3) rNil)) rNil))) rNil)) rNil))) rNil)))) rNext)
      (rDrop (rMet 3 appF (rCons (rVar 5) rNil))))))
      (rRet (rTup (rCons (rVar 1) (rCons (rVar 4) rNil)))))))
def t_product (R : Er → List Sl → Prop) : TSd :=
    (rSeq (rSet 1 (rC (.int 1)))
      (rSeq (rFor (iSeq (rVar 0)) (gNm 2) (rSet 1 (rBin mulD (rVar 1) (rVar 2))))
      (rRet (rVar 1))))
def t_orders_by (sp_product : DSp) (R : Er → List Sl → Prop) : TSd :=
    (rRet (rBin divD (rCall R sp_product (rCons (rLRg (rC (.int 1)) (rBin addD (rCB lenD (rCons (rVar 0) rNil)) (rC (.int 1)))) rNil)) (rCall R sp_product (rCons (rVar 0) rNil))))
def t_count_orders (sp_sizes_of : DSp) (sp_orders_by : DSp) (sp_look_at_field : DSp) (R : Er → List Sl → Prop) : TSd :=
    (rSeq (rDrop (rCall R sp_look_at_field (rCons (rVar 0) rNil)))
      (rRet (rCall R sp_orders_by (rCons (rCall R sp_sizes_of (rCons (rVar 0) rNil)) rNil))))
def t_next_ones (R : Er → List Sl → Prop) : TSd :=
    (rSeq (rSet 2 (rLst rNil))
      (rSeq (rFor (iEnm (rCons (rVar 0) rNil)) (gTp 2 (gCn (gNm 3) (gCn (gNm 4) gNl))) (rIfS (rAndT (rTst (rBin (inD true) (rVar 3) (rVar 1))) (rOrT (rTst (rBin (isN false) (rVar 4) (rC .non))) (rTst (rBin (inD false) (rVar 4) (rVar 1))))) (rDrop (rMet 2 appF (rCons (rVar 3) rNil))) rNext))
      (rRet (rVar 2))))
def t_nth_order (a_NoNumber : Addr) (sp_next_ones : DSp) (sp_is_within : DSp) (sp_orders_by : DSp) (sp_sizes_of : DSp) (sp_look_at_field : DSp) (R : Er → List Sl → Prop) : TSd :=
    (rSeq (rDrop (rCall R sp_look_at_field (rCons (rVar 0) rNil)))
      (rSeq (rSet 2 (rCall R sp_sizes_of (rCons (rVar 0) rNil)))
      (rSeq (rSet 3 (rCall R sp_orders_by (rCons (rVar 2) rNil)))
      (rSeq (rIfS (rNotT (rTst (rCall R sp_is_within (rCons (rVar 1) (rCons (rC (.int 0)) (rCons (rBin subD (rVar 3) (rC (.int 1))) rNil)))))) (rRaise R a_NoNumber) rNext)
      (rSeq (rSet 4 (rTup rNil))
      (rSeq (rFor (iRn3 (rCons (rCB lenD (rCons (rVar 0) rNil)) (rCons (rC (.int 0)) (rCons (rNeg (rC (.int 1))) rNil)))) (gNm 5) (rFor (iSeq (rCall R sp_next_ones (rCons (rVar 0) (rCons (rVar 4) rNil)))) (gNm 6) (rSeq (rSet 7 (rBin divD (rBin mulD (rVar 3) (rBin ixD (rVar 2) (rVar 6))) (rVar 5)))
      (rSeq (rIfS (rTst (rBin ltD (rVar 1) (rVar 7))) (rSeq (rSet 4 (rBin addD (rVar 4) (rTup (rCons (rVar 6) rNil))))
      (rSeq (rSet 3 (rVar 7))
      rBreak)) rNext)
      (rAug (fun i j => i - j) 1 (rVar 7))))))
      (rRet (rVar 4))))))))
def t_is_order_of (sp_next_ones : DSp) (sp_is_within : DSp) (R : Er → List Sl → Prop) : TSd :=
    (rSeq (rIfS (rOrT (rNotT (rTst (rIsi .tTup (rVar 1)))) (rTst (rBin (eqD true) (rCB lenD (rCons (rVar 1) rNil)) (rCB lenD (rCons (rVar 0) rNil))))) (rRet (rC (.bl false))) rNext)
      (rSeq (rIfS (rNotT (rTst (rCB allD (rCons (rLc [2] (iSeq (rVar 1)) (gNm 2) (fun ρ Q => Q true ρ) (rCall noR sp_is_within (rCons (rVar 2) (rCons (rC (.int 0)) (rCons (rBin subD (rCB lenD (rCons (rVar 0) rNil)) (rC (.int 1))) rNil))))) rNil)))) (rRet (rC (.bl false))) rNext)
      (rRet (rCB allD (rCons (rLc [2, 3] (iEnm (rCons (rVar 1) rNil)) (gTp 2 (gCn (gNm 3) (gCn (gNm 2) gNl))) (fun ρ Q => Q true ρ) (rBin (inD false) (rVar 2) (rCall noR sp_next_ones (rCons (rVar 0) (rCons (rSl (rVar 1) rNoP (rPt (rVar 3))) rNil))))) rNil)))))
def t_order_number (a_NoOrder : Addr) (sp_next_ones : DSp) (sp_orders_by : DSp) (sp_sizes_of : DSp) (sp_is_order_of : DSp) (sp_look_at_field : DSp) (R : Er → List Sl → Prop) : TSd :=
    (rSeq (rDrop (rCall R sp_look_at_field (rCons (rVar 0) rNil)))
      (rSeq (rIfS (rNotT (rTst (rCall R sp_is_order_of (rCons (rVar 0) (rCons (rVar 1) rNil))))) (rRaise R a_NoOrder) rNext)
      (rSeq (rSet 2 (rCall R sp_sizes_of (rCons (rVar 0) rNil)))
      (rSeq (rSet 3 (rCall R sp_orders_by (rCons (rVar 2) rNil)))
      (rSeq (rSet 4 (rC (.int 0)))
      (rSeq (rFor (iEnm (rCons (rVar 1) rNil)) (gTp 2 (gCn (gNm 5) (gCn (gNm 6) gNl))) (rSeq (rSet 7 (rBin subD (rCB lenD (rCons (rVar 0) rNil)) (rVar 5)))
      (rSeq (rFor (iSeq (rCall R sp_next_ones (rCons (rVar 0) (rCons (rSl (rVar 1) rNoP (rPt (rVar 5))) rNil)))) (gNm 8) (rIfS (rTst (rBin ltD (rVar 8) (rVar 6))) (rAug (fun i j => i + j) 4 (rBin divD (rBin mulD (rVar 3) (rBin ixD (rVar 2) (rVar 8))) (rVar 7))) rNext))
      (rSet 3 (rBin divD (rBin mulD (rVar 3) (rBin ixD (rVar 2) (rVar 6))) (rVar 7))))))
      (rRet (rVar 4))))))))
def t__law_orders_2 (R : Er → List Sl → Prop) : TSd :=
    (rSeq (rSet 1 (rLst (rCons (rTupX rNil) rNil)))
      (rSeq (rFor (iSeq (rVar 0)) (gNm 2) (rSeq (rSet 3 (rLst rNil))
      (rSeq (rFor (iSeq (rVar 1)) (gNm 4) (rFor (iEnm (rCons (rVar 0) rNil)) (gTp 2 (gCn (gNm 5) (gCn (gNm 6) gNl))) (rIfS (rAndT (rTst (rBin (inD true) (rVar 5) (rWk (rVar 4)))) (rOrT (rTst (rBin (isN false) (rVar 6) (rC .non))) (rTst (rBin (inD false) (rVar 6) (rWk (rVar 4)))))) (rDrop (rMet 3 appF (rCons (rBin addXD (rVar 4) (rTupX (rCons (rVar 5) rNil))) rNil))) rNext)))
      (rSet 1 (rVar 3)))))
      (rRet (rVar 1))))
def t__law_mixed (sp__law_take : DSp) (R : Er → List Sl → Prop) : TSd :=
    (rSeq (rSet 2 (rLst rNil))
      (rSeq (rFor (iRng (rCons (rVar 1) rNil)) (gNm 3) (rDrop (rMet 2 insF (rCons (rCallB R sp__law_take (rCons (rVar 0) (rCons (rBin addD (rCB lenD (rCons (rVar 2) rNil)) (rC (.int 1))) rNil))) (rCons (rVar 3) rNil)))))
      (rRet (rCB tupleD (rCons (rVar 2) rNil)))))
def t__law_count (sp__law_sizes : DSp) (R : Er → List Sl → Prop) : TSd :=
    (rSeq (rSet 1 (rC (.int 1)))
      (rSeq (rFor (iRng (rCons (rC (.int 2)) (rCons (rBin addD (rCB lenD (rCons (rVar 0) rNil)) (rC (.int 1))) rNil))) (gNm 2) (rSet 1 (rBin mulD (rVar 1) (rVar 2))))
      (rSeq (rFor (iSeq (rCall R sp__law_sizes (rCons (rVar 0) rNil))) (gNm 3) (rSet 1 (rBin divD (rVar 1) (rVar 3))))
      (rRet (rVar 1)))))
def t__law_fits_2 (R : Er → List Sl → Prop) : TSd :=
    (rSeq (rIfS (rTst (rBin (eqD true) (rCB sorted2D (rCons (rVar 1) rNil)) (rLRg (rC (.int 0)) (rCB lenD (rCons (rVar 0) rNil))))) (rRet (rC (.bl false))) rNext)
      (rSeq (rSet 2 (rCB dictPD (rCons (rLc [3, 4] (iEnm (rCons (rVar 1) rNil)) (gTp 2 (gCn (gNm 3) (gCn (gNm 4) gNl))) (fun ρ Q => Q true ρ) (rTup (rCons (rVar 4) (rCons (rVar 3) rNil)))) rNil)))
      (rRet (rBin (eqD false) (rLc [4, 5] (iEnm (rCons (rVar 0) rNil)) (gTp 2 (gCn (gNm 4) (gCn (gNm 5) gNl))) (rAndT (rTst (rBin (isN true) (rVar 5) (rC .non))) (rTst (rBin gtD (rDGet 2 (rVar 5)) (rDGet 2 (rVar 4))))) (rC (.int 1))) (rLst rNil)))))
def t__law_greedy (R : Er → List Sl → Prop) : TSd :=
    (rSeq (rSet 2 (rTup rNil))
      (rSeq (rFor (iSeq (rVar 0)) (gNm 3) (rSeq (rSet 4 (rLc [5, 6] (iEnm (rCons (rVar 0) rNil)) (gTp 2 (gCn (gNm 5) (gCn (gNm 6) gNl))) (rAndT (rTst (rBin (inD true) (rVar 5) (rVar 2))) (rOrT (rTst (rBin (isN false) (rVar 6) (rC .non))) (rTst (rBin (inD false) (rVar 6) (rVar 2))))) (rVar 5)))
      (rSet 2 (rBin addD (rVar 2) (rTup (rCons (rIf (rTst (rVar 1)) (rBin ixD (rVar 4) (rNeg (rC (.int 1)))) (rBin ixD (rVar 4) (rC (.int 0)))) rNil))))))
      (rRet (rVar 2))))
def t_common (R : Er → List Sl → Prop) : TSd :=
    (rSeq (rWhile (rTst (rBin (eqD true) (rVar 1) (rC (.int 0)))) (rPar 0 1 (rVar 1) (rBin modD (rVar 0) (rVar 1))))
      (rRet (rVar 0)))
def t_reduced (sp_common : DSp) (R : Er → List Sl → Prop) : TSd :=
    (rSeq (rSet 2 (rCall R sp_common (rCons (rVar 0) (rCons (rVar 1) rNil))))
      (rRet (rTup (rCons (rBin divD (rVar 0) (rVar 2)) (rCons (rBin divD (rVar 1) (rVar 2)) rNil)))))
def t_is_row (sp_is_within : DSp) (R : Er → List Sl → Prop) : TSd :=
    (rSeq (rIfS (rOrT (rNotT (rTst (rIsi .tTup (rVar 0)))) (rTst (rBin gtD (rCB lenD (rCons (rVar 0) rNil)) (rC (.int 60))))) (rRet (rC (.bl false))) rNext)
      (rRet (rCB allD (rCons (rLc [1] (iSeq (rVar 0)) (gNm 1) (fun ρ Q => Q true ρ) (rCall noR sp_is_within (rCons (rVar 1) (rCons (rC (.int 1)) (rCons (rC (.int 60)) rNil))))) rNil))))
def t_race_of (sp_reduced : DSp) (R : Er → List Sl → Prop) : TSd :=
    (rSeq (rSet 2 (rBin mulD (rLst (rCons (rTup (rCons (rC (.int 1)) (rCons (rC (.int 1)) rNil))) rNil)) (rBin addD (rCB lenD (rCons (rVar 1) rNil)) (rC (.int 1)))))
      (rSeq (rFor (iRng (rCons (rCB lenD (rCons (rVar 0) rNil)) rNil)) (gNm 3) (rSeq (rSet 4 (rBin ixD (rVar 0) (rBin subD (rNeg (rC (.int 1))) (rVar 3))))
      (rSeq (rSet 5 (rLst (rCons (rTup (rCons (rC (.int 0)) (rCons (rC (.int 1)) rNil))) rNil)))
      (rSeq (rFor (iEnm (rCons (rRev (rVar 1)) rNil)) (gTp 2 (gCn (gNm 6) (gCn (gNm 7) gNl))) (rSeq (rAsg (rBin ixD (rVar 2) (rBin addD (rVar 6) (rC (.int 1)))) (gTp 2 (gCn (gNm 8) (gCn (gNm 9) gNl))))
      (rSeq (rAsg (rBin ixD (rVar 5) (rNeg (rC (.int 1)))) (gTp 2 (gCn (gNm 10) (gCn (gNm 11) gNl))))
      (rDrop (rMet 5 appF (rCons (rCall R sp_reduced (rCons (rBin addD (rBin mulD (rBin mulD (rVar 4) (rVar 8)) (rVar 11)) (rBin mulD (rBin mulD (rVar 7) (rVar 10)) (rVar 9))) (rCons (rBin mulD (rBin mulD (rBin addD (rVar 4) (rVar 7)) (rVar 9)) (rVar 11)) rNil))) rNil))))))
      (rSet 2 (rVar 5))))))
      (rRet (rBin ixD (rVar 2) (rNeg (rC (.int 1)))))))
def t_race (a_NoRace : Addr) (sp_race_of : DSp) (sp_is_row : DSp) (R : Er → List Sl → Prop) : TSd :=
    (rSeq (rIfS (rOrT (rNotT (rTst (rCall R sp_is_row (rCons (rVar 0) rNil)))) (rNotT (rTst (rCall R sp_is_row (rCons (rVar 1) rNil))))) (rRaise R a_NoRace) rNext)
      (rRet (rCall R sp_race_of (rCons (rVar 0) (rCons (rVar 1) rNil)))))
def t__law_reduced (R : Er → List Sl → Prop) : TSd :=
    (rSeq (rPar 2 3 (rVar 0) (rVar 1))
      (rSeq (rWhile (rTst (rBin (eqD true) (rVar 3) (rC (.int 0)))) (rPar 2 3 (rVar 3) (rBin modD (rVar 2) (rVar 3))))
      (rRet (rTup (rCons (rBin divD (rVar 0) (rVar 2)) (rCons (rBin divD (rVar 1) (rVar 2)) rNil))))))
def t__law_race (sp__law_reduced : DSp) (R : Er → List Sl → Prop) : TSd :=
    (rSeq (rSetDT 2)
      (rSeq (rFor (iRng (rCons (rBin addD (rCB lenD (rCons (rVar 0) rNil)) (rC (.int 1))) rNil)) (gNm 3) (rFor (iRng (rCons (rBin addD (rCB lenD (rCons (rVar 1) rNil)) (rC (.int 1))) rNil)) (gNm 4) (rIfS (rOrT (rTst (rBin (eqD false) (rVar 3) (rC (.int 0)))) (rTst (rBin (eqD false) (rVar 4) (rC (.int 0))))) (rDPut 2 (rTupK (rCons (rVar 3) (rCons (rVar 4) rNil))) (rTup (rCons (rCB intOfD (rCons (rBin (eqD false) (rVar 3) (rC (.int 0))) rNil)) (rCons (rC (.int 1)) rNil)))) (rSeq (rPar 5 6 (rBin ixD (rVar 0) (rBin subD (rCB lenD (rCons (rVar 0) rNil)) (rVar 3))) (rBin ixD (rVar 1) (rBin subD (rCB lenD (rCons (rVar 1) rNil)) (rVar 4))))
      (rSeq (rAsg (rTup (rCons (rDGet 2 (rTupK (rCons (rBin subD (rVar 3) (rC (.int 1))) (rCons (rVar 4) rNil)))) (rCons (rDGet 2 (rTupK (rCons (rVar 3) (rCons (rBin subD (rVar 4) (rC (.int 1))) rNil)))) rNil))) (gTp 2 (gCn (gTp 2 (gCn (gNm 7) (gCn (gNm 8) gNl))) (gCn (gTp 2 (gCn (gNm 9) (gCn (gNm 10) gNl))) gNl))))
      (rDPut 2 (rTupK (rCons (rVar 3) (rCons (rVar 4) rNil))) (rCall R sp__law_reduced (rCons (rBin addD (rBin mulD (rBin mulD (rVar 5) (rVar 7)) (rVar 10)) (rBin mulD (rBin mulD (rVar 6) (rVar 9)) (rVar 8))) (rCons (rBin mulD (rBin mulD (rBin addD (rVar 5) (rVar 6)) (rVar 8)) (rVar 10)) rNil)))))))))
      (rRet (rDGet 2 (rTupK (rCons (rCB lenD (rCons (rVar 0) rNil)) (rCons (rCB lenD (rCons (rVar 1) rNil)) rNil)))))))
def t__law_sum (sp__law_reduced : DSp) (R : Er → List Sl → Prop) : TSd :=
    (rRet (rCall R sp__law_reduced (rCons (rBin addD (rBin mulD (rBin ixD (rVar 0) (rC (.int 0))) (rBin ixD (rVar 1) (rC (.int 1)))) (rBin mulD (rBin ixD (rVar 1) (rC (.int 0))) (rBin ixD (rVar 0) (rC (.int 1))))) (rCons (rBin mulD (rBin ixD (rVar 0) (rC (.int 1))) (rBin ixD (rVar 1) (rC (.int 1)))) rNil))))
def t__law_rates (sp__law_take : DSp) (R : Er → List Sl → Prop) : TSd :=
    (rSeq (rSet 2 (rBin ixD (rLst (rCons (rC (.int 1)) (rCons (rC (.int 4)) (rCons (rC (.int 20)) (rCons (rC (.int 60)) rNil))))) (rCallB R sp__law_take (rCons (rVar 0) (rCons (rC (.int 4)) rNil)))))
      (rRet (rCB tupleD (rCons (rLc [3] (iRng (rCons (rCallB R sp__law_take (rCons (rVar 0) (rCons (rBin addD (rVar 1) (rC (.int 1))) rNil))) rNil)) (gNm 3) (fun ρ Q => Q true ρ) (rBin addD (rC (.int 1)) (rCallB noR sp__law_take (rCons (rVar 0) (rCons (rVar 2) rNil))))) rNil))))
def t_share_ahead (sp_race_of : DSp) (sp_sizes_of : DSp) (sp_way_up : DSp) (sp_look_at_one : DSp) (sp_look_at_field : DSp) (R : Er → List Sl → Prop) : TSd :=
    (rSeq (rDrop (rCall R sp_look_at_field (rCons (rVar 0) rNil)))
      (rSeq (rDrop (rCall R sp_look_at_one (rCons (rVar 0) (rCons (rVar 1) rNil))))
      (rSeq (rDrop (rCall R sp_look_at_one (rCons (rVar 0) (rCons (rVar 2) rNil))))
      (rSeq (rAsg (rTup (rCons (rCall R sp_way_up (rCons (rVar 0) (rCons (rVar 1) rNil))) (rCons (rCall R sp_way_up (rCons (rVar 0) (rCons (rVar 2) rNil))) rNil))) (gTp 2 (gCn (gNm 6) (gCn (gNm 7) gNl))))
      (rSeq (rIfS (rOrT (rTst (rBin (inD false) (rVar 1) (rVar 7))) (rTst (rBin (inD false) (rVar 2) (rVar 6)))) (rRet (rTup (rCons (rCB intOfD (rCons (rAnd (rBin (inD false) (rVar 1) (rVar 7)) (rBin (eqD true) (rVar 1) (rVar 2))) rNil)) (rCons (rC (.int 1)) rNil)))) rNext)
      (rSeq (rSet 3 (rCall R sp_sizes_of (rCons (rVar 0) rNil)))
      (rSeq (rSet 4 (rLc [8] (iSeq (rVar 6)) (gNm 8) (rTst (rBin (inD true) (rVar 8) (rVar 7))) (rBin ixD (rVar 3) (rVar 8))))
      (rSeq (rSet 5 (rLc [8] (iSeq (rVar 7)) (gNm 8) (rTst (rBin (inD true) (rVar 8) (rVar 6))) (rBin ixD (rVar 3) (rVar 8))))
      (rRet (rCall R sp_race_of (rCons (rCB tupleD (rCons (rRev (rVar 4)) rNil)) (rCons (rCB tupleD (rCons (rRev (rVar 5)) rNil)) rNil))))))))))))
def t_mean_of (sp_reduced : DSp) (sp_product : DSp) (sp_way_up : DSp) (sp_sizes_of : DSp) (sp_look_at_one : DSp) (sp_look_at_field : DSp) (R : Er → List Sl → Prop) : TSd :=
    (rSeq (rDrop (rCall R sp_look_at_field (rCons (rVar 0) rNil)))
      (rSeq (rDrop (rCall R sp_look_at_one (rCons (rVar 0) (rCons (rVar 1) rNil))))
      (rSeq (rSet 2 (rCall R sp_sizes_of (rCons (rVar 0) rNil)))
      (rSeq (rSet 3 (rLc [6] (iSeq (rCall R sp_way_up (rCons (rVar 0) (rCons (rVar 1) rNil)))) (gNm 6) (fun ρ Q => Q true ρ) (rBin ixD (rVar 2) (rVar 6))))
      (rSeq (rPar 4 5 (rCall R sp_product (rCons (rVar 3) rNil)) (rCall R sp_product (rCons (rLc [7] (iSeq (rVar 3)) (gNm 7) (fun ρ Q => Q true ρ) (rBin addD (rVar 7) (rC (.int 1)))) rNil)))
      (rRet (rCall R sp_reduced (rCons (rBin mulD (rBin addD (rCB lenD (rCons (rVar 0) rNil)) (rC (.int 1))) (rBin subD (rVar 5) (rVar 4))) (rCons (rVar 5) rNil)))))))))
def t_choose (R : Er → List Sl → Prop) : TSd :=
    (rSeq (rSet 2 (rC (.int 1)))
      (rSeq (rFor (iRng (rCons (rVar 1) rNil)) (gNm 3) (rSet 2 (rBin divD (rBin mulD (rVar 2) (rBin subD (rVar 0) (rVar 3))) (rBin addD (rVar 3) (rC (.int 1))))))
      (rRet (rVar 2))))
def t_mixed (sp_choose : DSp) (R : Er → List Sl → Prop) : TSd :=
    (rSeq (rSet 2 (rBin mulD (rLst (rCons (rC (.int 0)) rNil)) (rBin addD (rCB lenD (rCons (rVar 0) rNil)) (rVar 1))))
      (rSeq (rFor (iEnm (rCons (rVar 0) rNil)) (gTp 2 (gCn (gNm 3) (gCn (gNm 4) gNl))) (rFor (iRng (rCons (rBin addD (rVar 1) (rC (.int 1))) rNil)) (gNm 5) (rSeq (rSet 6 (rBin mulD (rCall R sp_choose (rCons (rBin addD (rVar 3) (rVar 5)) (rCons (rVar 5) rNil))) (rCall R sp_choose (rCons (rBin subD (rBin addD (rBin subD (rBin subD (rCB lenD (rCons (rVar 0) rNil)) (rC (.int 1))) (rVar 3)) (rVar 1)) (rVar 5)) (rCons (rBin subD (rVar 1) (rVar 5)) rNil)))))
      (rAugS 2 (rBin addD (rVar 3) (rVar 5)) (rBin mulD (rVar 4) (rVar 6))))))
      (rRet (rVar 2))))
def t_place_counts (sp_mixed : DSp) (sp_orders_by : DSp) (sp_part_of : DSp) (sp_way_up : DSp) (sp_sizes_of : DSp) (sp_look_at_one : DSp) (sp_look_at_field : DSp) (R : Er → List Sl → Prop) : TSd :=
    (rSeq (rDrop (rCall R sp_look_at_field (rCons (rVar 0) rNil)))
      (rSeq (rDrop (rCall R sp_look_at_one (rCons (rVar 0) (rCons (rVar 1) rNil))))
      (rSeq (rSet 2 (rCall R sp_sizes_of (rCons (rVar 0) rNil)))
      (rSeq (rSet 3 (rCall R sp_way_up (rCons (rVar 0) (rCons (rVar 1) rNil))))
      (rSeq (rSet 4 (rCall R sp_part_of (rCons (rVar 0) (rCons (rVar 1) rNil))))
      (rSeq (rSet 5 (rBin addD (rLst (rCons (rCall R sp_orders_by (rCons (rLc [9] (iSeq (rVar 4)) (gNm 9) (fun ρ Q => Q true ρ) (rBin ixD (rVar 2) (rVar 9))) rNil)) rNil)) (rBin mulD (rLst (rCons (rC (.int 0)) rNil)) (rBin subD (rCB lenD (rCons (rVar 4) rNil)) (rC (.int 1))))))
      (rSeq (rFor (iSeq (rBin addD (rSl (rVar 3) (rPt (rC (.int 1))) rNoP) (rLst (rCons (rC .non) rNil)))) (gNm 6) (rSeq (rSet 7 (rIf (rTst (rBin (isN false) (rVar 6) (rC .non))) (rLRg (rC (.int 0)) (rCB lenD (rCons (rVar 0) rNil))) (rCall R sp_part_of (rCons (rVar 0) (rCons (rVar 6) rNil)))))
      (rSeq (rSet 8 (rLc [9] (iSeq (rVar 7)) (gNm 9) (rAndT (rTst (rBin (eqD true) (rVar 9) (rVar 6))) (rTst (rBin (inD true) (rVar 9) (rVar 4)))) (rBin ixD (rVar 2) (rVar 9))))
      (rSeq (rSet 5 (rLc [10] (iSeq (rCall R sp_mixed (rCons (rVar 5) (rCons (rCB lenD (rCons (rVar 8) rNil)) rNil)))) (gNm 10) (fun ρ Q => Q true ρ) (rBin mulD (rVar 10) (rCall noR sp_orders_by (rCons (rVar 8) rNil)))))
      (rSeq (rSet 5 (rIf (rTst (rBin (isN false) (rVar 6) (rC .non))) (rVar 5) (rBin addD (rLst (rCons (rC (.int 0)) rNil)) (rVar 5))))
      (rSet 4 (rVar 7)))))))
      (rRet (rVar 5)))))))))
def t__law_ways_2 (sp__law_way : DSp) (sp__law_sizes : DSp) (R : Er → List Sl → Prop) : TSd :=
    (rSeq (rAsg (rTup (rCons (rCall R sp__law_sizes (rCons (rVar 0) rNil)) (rCons (rCall R sp__law_way (rCons (rVar 0) (rCons (rVar 1) rNil))) (rCons (rCall R sp__law_way (rCons (rVar 0) (rCons (rVar 2) rNil))) rNil)))) (gTp 3 (gCn (gNm 5) (gCn (gNm 6) (gCn (gNm 7) gNl)))))
      (rSeq (rSet 3 (rLc [8] (iSeq (rVar 6)) (gNm 8) (rTst (rBin (inD true) (rVar 8) (rVar 7))) (rBin ixD (rVar 5) (rVar 8))))
      (rSeq (rSet 4 (rLc [8] (iSeq (rVar 7)) (gNm 8) (rTst (rBin (inD true) (rVar 8) (rVar 6))) (rBin ixD (rVar 5) (rVar 8))))
      (rRet (rTup (rCons (rCB tupleD (rCons (rRev (rVar 3)) rNil)) (rCons (rCB tupleD (rCons (rRev (rVar 4)) rNil)) rNil)))))))
def t_look_at_peers (a_NotPeers : Addr) (R : Er → List Sl → Prop) : TSd :=
    (rIfS (rOrT (rTst (rBin (eqD false) (rVar 1) (rVar 2))) (rTst (rBin (eqD true) (rBin ixD (rVar 0) (rVar 1)) (rBin ixD (rVar 0) (rVar 2))))) (rRaise R a_NotPeers) rNext)
def t_played_so (R : Er → List Sl → Prop) : TSd :=
    (rRet (rBin addD (rBin addD (rSl (rVar 0) rNoP (rPt (rVar 2))) (rTup (rCons (rVar 1) rNil))) (rSl (rVar 0) (rPt (rBin addD (rVar 2) (rC (.int 1)))) rNoP)))
def t_played (sp_played_so : DSp) (sp_look_at_peers : DSp) (sp_look_at_one : DSp) (sp_look_at_field : DSp) (R : Er → List Sl → Prop) : TSd :=
    (rSeq (rDrop (rCall R sp_look_at_field (rCons (rVar 0) rNil)))
      (rSeq (rDrop (rCall R sp_look_at_one (rCons (rVar 0) (rCons (rVar 1) rNil))))
      (rSeq (rDrop (rCall R sp_look_at_one (rCons (rVar 0) (rCons (rVar 2) rNil))))
      (rSeq (rDrop (rCall R sp_look_at_peers (rCons (rVar 0) (rCons (rVar 1) (rCons (rVar 2) rNil)))))
      (rRet (rCall R sp_played_so (rCons (rVar 0) (rCons (rVar 1) (rCons (rVar 2) rNil)))))))))
def t__law_pair (sp__law_take : DSp) (R : Er → List Sl → Prop) : TSd :=
    (rSeq (rSet 2 (rLst rNil))
      (rSeq (rFor (iEnm (rCons (rVar 1) rNil)) (gTp 2 (gCn (gNm 3) (gCn (gNm 4) gNl))) (rSeq (rSet 5 (rLc [6, 7] (iEnm (rCons (rVar 1) rNil)) (gTp 2 (gCn (gNm 6) (gCn (gNm 7) gNl))) (rTst (rBin (eqD false) (rVar 7) (rVar 4))) (rVar 6)))
      (rSet 2 (rBin addD (rVar 2) (rLc [6] (iSeq (rVar 5)) (gNm 6) (rTst (rBin (eqD true) (rVar 6) (rVar 3))) (rTup (rCons (rVar 3) (rCons (rVar 6) rNil))))))))
      (rRet (rIf (rTst (rBin (eqD true) (rVar 2) (rLst rNil))) (rBin ixD (rVar 2) (rCallB R sp__law_take (rCons (rVar 0) (rCons (rCB lenD (rCons (rVar 2) rNil)) rNil)))) (rC .non)))))
def t__law_ends_right (sp_mean_of : DSp) (sp__law_reduced : DSp) (sp_place_counts : DSp) (sp__law_same : DSp) (sp__law_take : DSp) (sp_share_ahead : DSp) (sp_count_orders : DSp) (sp_played : DSp) (R : Er → List Sl → Prop) : TSd :=
    (rSeq (rSet 4 (rCall R sp_played (rCons (rVar 1) (rCons (rVar 2) (rCons (rVar 3) rNil)))))
      (rSeq (rSet 5 (rCall R sp_played (rCons (rVar 1) (rCons (rVar 3) (rCons (rVar 2) rNil)))))
      (rSeq (rIfS (rNotT (rTst (rCall R sp__law_same (rCons (rVar 4) (rCons (rBin addD (rBin addD (rSl (rVar 1) rNoP (rPt (rVar 3))) (rTup (rCons (rVar 2) rNil))) (rSl (rVar 1) (rPt (rBin addD (rVar 3) (rC (.int 1)))) rNoP)) rNil))))) (rRet (rC (.bl false))) rNext)
      (rSeq (rIfS (rNotT (rTst (rCall R sp__law_same (rCons (rVar 5) (rCons (rBin addD (rBin addD (rSl (rVar 1) rNoP (rPt (rVar 2))) (rTup (rCons (rVar 3) rNil))) (rSl (rVar 1) (rPt (rBin addD (rVar 2) (rC (.int 1)))) rNoP)) rNil))))) (rRet (rC (.bl false))) rNext)
      (rSeq (rPar 10 11 (rCall R sp_count_orders (rCons (rVar 4) rNil)) (rCall R sp_count_orders (rCons (rVar 5) rNil)))
      (rSeq (rSet 6 (rCall R sp_count_orders (rCons (rVar 1) rNil)))
      (rSeq (rIfS (rTst (rBin (eqD true) (rBin addD (rVar 10) (rVar 11)) (rVar 6))) (rRet (rC (.bl false))) rNext)
      (rSeq (rIfS (rTst (rBin (eqD true) (rCall R sp_share_ahead (rCons (rVar 1) (rCons (rVar 2) (rCons (rVar 3) rNil)))) (rCall R sp__law_reduced (rCons (rVar 10) (rCons (rVar 6) rNil))))) (rRet (rC (.bl false))) rNext)
      (rSeq (rSet 7 (rCallB R sp__law_take (rCons (rVar 0) (rCons (rCB lenD (rCons (rVar 1) rNil)) rNil))))
      (rSeq (rPar 12 13 (rCall R sp_place_counts (rCons (rVar 4) (rCons (rVar 7) rNil))) (rCall R sp_place_counts (rCons (rVar 5) (rCons (rVar 7) rNil))))
      (rSeq (rSet 8 (rLc [14, 15] (iZp (rCons (rVar 12) (rCons (rVar 13) rNil))) (gTp 2 (gCn (gNm 14) (gCn (gNm 15) gNl))) (fun ρ Q => Q true ρ) (rBin addD (rVar 14) (rVar 15))))
      (rSeq (rIfS (rNotT (rTst (rCall R sp__law_same (rCons (rVar 8) (rCons (rCall R sp_place_counts (rCons (rVar 1) (rCons (rVar 7) rNil))) rNil))))) (rRet (rC (.bl false))) rNext)
      (rSeq (rPar 2 3 (rCall R sp_mean_of (rCons (rVar 4) (rCons (rVar 7) rNil))) (rCall R sp_mean_of (rCons (rVar 5) (rCons (rVar 7) rNil))))
      (rSeq (rSet 9 (rBin addD (rBin mulD (rBin mulD (rBin ixD (rVar 2) (rC (.int 0))) (rBin ixD (rVar 3) (rC (.int 1)))) (rVar 10)) (rBin mulD (rBin mulD (rBin ixD (rVar 3) (rC (.int 0))) (rBin ixD (rVar 2) (rC (.int 1)))) (rVar 11))))
      (rRet (rBin (eqD false) (rCall R sp_mean_of (rCons (rVar 1) (rCons (rVar 7) rNil))) (rCall R sp__law_reduced (rCons (rVar 9) (rCons (rBin mulD (rBin mulD (rBin ixD (rVar 2) (rC (.int 1))) (rBin ixD (rVar 3) (rC (.int 1)))) (rVar 6)) rNil)))))))))))))))))))
def t_weight_of (sp_under : DSp) (sp_product : DSp) (R : Er → List Sl → Prop) : TSd :=
    (rRet (rCB sumD (rCons (rLc [1] (iSeq (rCall R sp_under (rCons (rVar 0) (rCons (rC .non) rNil)))) (gNm 1) (fun ρ Q => Q true ρ) (rCall noR sp_product (rCons (rBin mulD (rLst (rCons (rC (.int 2)) rNil)) (rCB lenD (rCons (rCall noR sp_under (rCons (rVar 0) (rCons (rVar 1) rNil))) rNil))) rNil))) rNil)))
def t_weight (sp_weight_of : DSp) (sp_look_at_field : DSp) (R : Er → List Sl → Prop) : TSd :=
    (rSeq (rDrop (rCall R sp_look_at_field (rCons (rVar 0) rNil)))
      (rRet (rCall R sp_weight_of (rCons (rVar 0) rNil))))
def t_is_settled (sp_under : DSp) (R : Er → List Sl → Prop) : TSd :=
    (rSeq (rSet 1 (rCall R sp_under (rCons (rVar 0) (rCons (rC .non) rNil))))
      (rRet (rAnd (rBin (eqD false) (rCB lenD (rCons (rVar 1) rNil)) (rC (.int 1))) (rBin leD (rCB lenD (rCons (rCall R sp_under (rCons (rVar 0) (rCons (rBin ixD (rVar 1) (rC (.int 0))) rNil))) rNil)) (rC (.int 1))))))
def t_needed_by (sp_under : DSp) (sp_weight_of : DSp) (sp_is_settled : DSp) (R : Er → List Sl → Prop) : TSd :=
    (rSeq (rIfS (rTst (rCall R sp_is_settled (rCons (rVar 0) rNil))) (rRet (rC (.int 0))) rNext)
      (rSeq (rAsg (rTup (rCons (rC (.int 0)) (rCons (rC (.int 1)) rNil))) (gTp 2 (gCn (gNm 1) (gCn (gNm 2) gNl))))
      (rSeq (rWhile (rTst (rBin ltD (rVar 2) (rCall R sp_weight_of (rCons (rVar 0) rNil)))) (rPar 1 2 (rBin addD (rVar 1) (rC (.int 1))) (rBin mulD (rC (.int 2)) (rVar 2))))
      (rRet (rBin addD (rBin subD (rCB lenD (rCons (rCall R sp_under (rCons (rVar 0) (rCons (rC .non) rNil))) rNil)) (rC (.int 2))) (rVar 1))))))
def t_matches_needed (sp_needed_by : DSp) (sp_look_at_field : DSp) (R : Er → List Sl → Prop) : TSd :=
    (rSeq (rDrop (rCall R sp_look_at_field (rCons (rVar 0) rNil)))
      (rRet (rCall R sp_needed_by (rCons (rVar 0) rNil))))
def t_hard_end (sp_played_so : DSp) (sp_needed_by : DSp) (sp_look_at_peers : DSp) (sp_look_at_one : DSp) (sp_look_at_field : DSp) (R : Er → List Sl → Prop) : TSd :=
    (rSeq (rDrop (rCall R sp_look_at_field (rCons (rVar 0) rNil)))
      (rSeq (rDrop (rCall R sp_look_at_one (rCons (rVar 0) (rCons (rVar 1) rNil))))
      (rSeq (rDrop (rCall R sp_look_at_one (rCons (rVar 0) (rCons (rVar 2) rNil))))
      (rSeq (rDrop (rCall R sp_look_at_peers (rCons (rVar 0) (rCons (rVar 1) (rCons (rVar 2) rNil)))))
      (rSeq (rPar 3 4 (rCB min2D (rCons (rVar 1) (rCons (rVar 2) rNil))) (rCB max2D (rCons (rVar 1) (rCons (rVar 2) rNil))))
      (rSeq (rPar 5 6 (rCall R sp_needed_by (rCons (rCall R sp_played_so (rCons (rVar 0) (rCons (rVar 3) (rCons (rVar 4) rNil)))) rNil)) (rCall R sp_needed_by (rCons (rCall R sp_played_so (rCons (rVar 0) (rCons (rVar 4) (rCons (rVar 3) rNil)))) rNil)))
      (rRet (rIf (rTst (rBin geD (rVar 5) (rVar 6))) (rTup (rCons (rVar 3) (rCons (rVar 5) rNil))) (rTup (rCons (rVar 4) (rCons (rVar 6) rNil)))))))))))
def t__law_needed (sp__law_power : DSp) (sp__law_direct : DSp) (R : Er → List Sl → Prop) : TSd :=
    (rSeq (rSet 1 (rCall R sp__law_direct (rCons (rVar 0) (rCons (rC .non) rNil))))
      (rSeq (rSet 2 (rLc [6] (iSeq (rVar 1)) (gNm 6) (fun ρ Q => Q true ρ) (rCB lenD (rCons (rCall noR sp__law_direct (rCons (rVar 0) (rCons (rVar 6) rNil))) rNil))))
      (rSeq (rIfS (rAndT (rTst (rBin (eqD false) (rCB lenD (rCons (rVar 1) rNil)) (rC (.int 1)))) (rTst (rBin ltD (rBin ixD (rVar 2) (rC (.int 0))) (rC (.int 2))))) (rRet (rC (.int 0))) rNext)
      (rSeq (rPar3 3 4 5 (rCons (rCB sumD (rCons (rLc [7] (iSeq (rVar 2)) (gNm 7) (fun ρ Q => Q true ρ) (rCall noR sp__law_power (rCons (rVar 7) rNil))) rNil)) (rCons (rC (.int 1)) (rCons (rC (.int 0)) rNil))))
      (rSeq (rWhile (rTst (rBin ltD (rVar 4) (rVar 3))) (rPar 4 5 (rBin mulD (rC (.int 2)) (rVar 4)) (rBin addD (rVar 5) (rC (.int 1)))))
      (rRet (rBin addD (rBin subD (rCB lenD (rCons (rVar 1) rNil)) (rC (.int 2))) (rVar 5))))))))
def t__law_power (R : Er → List Sl → Prop) : TSd :=
    (rSeq (rSet 1 (rC (.int 1)))
      (rSeq (rFor (iRng (rCons (rVar 0) rNil)) (gNm 2) (rSet 1 (rBin mulD (rC (.int 2)) (rVar 1))))
      (rRet (rVar 1))))
def t__law_ends (sp__law_needed : DSp) (R : Er → List Sl → Prop) : TSd :=
    (rSeq (rPar 5 6 (rCB min2D (rCons (rVar 1) (rCons (rVar 2) rNil))) (rCB max2D (rCons (rVar 1) (rCons (rVar 2) rNil))))
      (rSeq (rSet 3 (rBin addD (rBin addD (rSl (rVar 0) rNoP (rPt (rVar 6))) (rTup (rCons (rVar 5) rNil))) (rSl (rVar 0) (rPt (rBin addD (rVar 6) (rC (.int 1)))) rNoP)))
      (rSeq (rSet 4 (rBin addD (rBin addD (rSl (rVar 0) rNoP (rPt (rVar 5))) (rTup (rCons (rVar 6) rNil))) (rSl (rVar 0) (rPt (rBin addD (rVar 5) (rC (.int 1)))) rNoP)))
      (rRet (rTup (rCons (rCall R sp__law_needed (rCons (rVar 3) rNil)) (rCons (rCall R sp__law_needed (rCons (rVar 4) rNil)) rNil)))))))
def t__law_renamed_2 (R : Er → List Sl → Prop) : TSd :=
    (rSeq (rSet 2 (rBin mulD (rLst (rCons (rC .non) rNil)) (rCB lenD (rCons (rVar 0) rNil))))
      (rSeq (rFor (iEnm (rCons (rVar 0) rNil)) (gTp 2 (gCn (gNm 3) (gCn (gNm 4) gNl))) (rSto 2 (rBin ixD (rVar 1) (rVar 3)) (rIf (rTst (rBin (isN false) (rVar 4) (rC .non))) (rC .non) (rBin ixD (rVar 1) (rVar 4)))))
      (rRet (rCB tupleD (rCons (rVar 2) rNil)))))
def t__law_player_right (sp_directly_under : DSp) (sp__law_same : DSp) (sp_place_counts : DSp) (sp_mean_of : DSp) (R : Er → List Sl → Prop) : TSd :=
    (rSeq (rSet 4 (rBin ixD (rVar 2) (rVar 3)))
      (rSeq (rIfS (rTst (rBin (eqD true) (rCall R sp_mean_of (rCons (rVar 1) (rCons (rVar 4) rNil))) (rCall R sp_mean_of (rCons (rVar 0) (rCons (rVar 3) rNil))))) (rRet (rC (.bl false))) rNext)
      (rSeq (rIfS (rTst (rBin (eqD true) (rCall R sp_place_counts (rCons (rVar 1) (rCons (rVar 4) rNil))) (rCall R sp_place_counts (rCons (rVar 0) (rCons (rVar 3) rNil))))) (rRet (rC (.bl false))) rNext)
      (rSeq (rSet 5 (rCB sorted2D (rCons (rLc [6] (iSeq (rCall R sp_directly_under (rCons (rVar 0) (rCons (rVar 3) rNil)))) (gNm 6) (fun ρ Q => Q true ρ) (rBin ixD (rVar 2) (rVar 6))) rNil)))
      (rRet (rCall R sp__law_same (rCons (rCall R sp_directly_under (rCons (rVar 1) (rCons (rVar 4) rNil))) (rCons (rVar 5) rNil))))))))
def t_unbeaten (sp_beaters : DSp) (sp_look_at_cup : DSp) (R : Er → List Sl → Prop) : TSd :=
    (rSeq (rDrop (rCall R sp_look_at_cup (rCons (rVar 0) rNil)))
      (rSeq (rSet 1 (rCall R sp_beaters (rCons (rVar 0) rNil)))
      (rRet (rLc [2] (iRng (rCons (rBin ixD (rVar 0) (rC (.int 0))) rNil)) (gNm 2) (rTst (rDIn (!·) 1 (rVar 2))) (rVar 2)))))
def t_stronger (sp_beaters : DSp) (sp_look_at_player : DSp) (sp_look_at_cup : DSp) (R : Er → List Sl → Prop) : TSd :=
    (rSeq (rDrop (rCall R sp_look_at_cup (rCons (rVar 0) rNil)))
      (rSeq (rDrop (rCall R sp_look_at_player (rCons (rVar 0) (rCons (rVar 1) rNil))))
      (rSeq (rSet 2 (rCall R sp_beaters (rCons (rVar 0) rNil)))
      (rSeq (rSet 3 (rLst rNil))
      (rSeq (rWhile (rTst (rDIn id 2 (rVar 1))) (rSeq (rSet 1 (rDGet 2 (rVar 1)))
      (rDrop (rMet 3 appF (rCons (rVar 1) rNil)))))
      (rRet (rRev (rVar 3))))))))
def t_ways (sp_weaker_so : DSp) (R : Er → List Sl → Prop) : TSd :=
    (rSeq (rSet 2 (rC (.int 1)))
      (rSeq (rFor (iRng (rCons (rC (.int 2)) (rCons (rBin addD (rCB lenD (rCons (rVar 1) rNil)) (rC (.int 1))) rNil))) (gNm 3) (rSet 2 (rBin mulD (rVar 2) (rVar 3))))
      (rSeq (rFor (iSeq (rVar 1)) (gNm 4) (rSet 2 (rBin divD (rVar 2) (rBin addD (rC (.int 1)) (rCB lenD (rCons (rLc [5] (iSeq (rCall R sp_weaker_so (rCons (rVar 0) (rCons (rVar 4) rNil)))) (gNm 5) (rTst (rBin (inD false) (rVar 5) (rVar 1))) (rVar 5)) rNil))))))
      (rRet (rVar 2)))))
def t_how_many (sp_ways : DSp) (sp_look_at_cup : DSp) (R : Er → List Sl → Prop) : TSd :=
    (rSeq (rDrop (rCall R sp_look_at_cup (rCons (rVar 0) rNil)))
      (rRet (rCall R sp_ways (rCons (rVar 0) (rCons (rLRg (rC (.int 0)) (rBin ixD (rVar 0) (rC (.int 0)))) rNil)))))
def t_is_order (sp_can_follow : DSp) (sp_is_within : DSp) (sp_look_at_cup : DSp) (R : Er → List Sl → Prop) : TSd :=
    (rSeq (rDrop (rCall R sp_look_at_cup (rCons (rVar 0) rNil)))
      (rSeq (rIfS (rOrT (rNotT (rTst (rIsi .tTup (rVar 1)))) (rTst (rBin (eqD true) (rCB lenD (rCons (rVar 1) rNil)) (rBin ixD (rVar 0) (rC (.int 0)))))) (rRet (rC (.bl false))) rNext)
      (rSeq (rIfS (rNotT (rTst (rCB allD (rCons (rLc [2] (iSeq (rVar 1)) (gNm 2) (fun ρ Q => Q true ρ) (rCall noR sp_is_within (rCons (rVar 2) (rCons (rC (.int 0)) (rCons (rBin subD (rBin ixD (rVar 0) (rC (.int 0))) (rC (.int 1))) rNil))))) rNil)))) (rRet (rC (.bl false))) rNext)
      (rRet (rCB allD (rCons (rLc [2, 3] (iEnm (rCons (rVar 1) rNil)) (gTp 2 (gCn (gNm 3) (gCn (gNm 2) gNl))) (fun ρ Q => Q true ρ) (rBin (inD false) (rVar 2) (rCall noR sp_can_follow (rCons (rVar 0) (rCons (rSl (rVar 1) rNoP (rPt (rVar 3))) rNil))))) rNil))))))
def t_rest_ways (sp_ways : DSp) (R : Er → List Sl → Prop) : TSd :=
    (rRet (rCall R sp_ways (rCons (rVar 0) (rCons (rLc [2] (iRng (rCons (rBin ixD (rVar 0) (rC (.int 0))) rNil)) (gNm 2) (rTst (rBin (inD true) (rVar 2) (rVar 1))) (rVar 2)) rNil))))
def t_order_at (a_NoNumber : Addr) (sp_can_follow : DSp) (sp_rest_ways : DSp) (sp_ways : DSp) (sp_is_within : DSp) (sp_look_at_cup : DSp) (R : Er → List Sl → Prop) : TSd :=
    (rSeq (rDrop (rCall R sp_look_at_cup (rCons (rVar 0) rNil)))
      (rSeq (rIfS (rNotT (rTst (rCall R sp_is_within (rCons (rVar 1) (rCons (rC (.int 0)) (rCons (rBin subD (rCall R sp_ways (rCons (rVar 0) (rCons (rLRg (rC (.int 0)) (rBin ixD (rVar 0) (rC (.int 0)))) rNil))) (rC (.int 1))) rNil)))))) (rRaise R a_NoNumber) rNext)
      (rSeq (rSet 2 (rTup rNil))
      (rSeq (rWhile (rTst (rBin ltD (rCB lenD (rCons (rVar 2) rNil)) (rBin ixD (rVar 0) (rC (.int 0))))) (rFor (iSeq (rCall R sp_can_follow (rCons (rVar 0) (rCons (rVar 2) rNil)))) (gNm 3) (rSeq (rSet 4 (rCall R sp_rest_ways (rCons (rVar 0) (rCons (rBin addD (rVar 2) (rTup (rCons (rVar 3) rNil))) rNil))))
      (rSeq (rIfS (rTst (rBin ltD (rVar 1) (rVar 4))) (rSeq (rSet 2 (rBin addD (rVar 2) (rTup (rCons (rVar 3) rNil))))
      rBreak) rNext)
      (rSet 1 (rBin subD (rVar 1) (rVar 4)))))))
      (rRet (rVar 2))))))
def t_number_of (a_NoOrder : Addr) (sp_can_follow : DSp) (sp_rest_ways : DSp) (sp_is_order : DSp) (sp_look_at_cup : DSp) (R : Er → List Sl → Prop) : TSd :=
    (rSeq (rDrop (rCall R sp_look_at_cup (rCons (rVar 0) rNil)))
      (rSeq (rIfS (rNotT (rTst (rCall R sp_is_order (rCons (rVar 0) (rCons (rVar 1) rNil))))) (rRaise R a_NoOrder) rNext)
      (rSeq (rSet 2 (rC (.int 0)))
      (rSeq (rFor (iEnm (rCons (rVar 1) rNil)) (gTp 2 (gCn (gNm 3) (gCn (gNm 4) gNl))) (rFor (iSeq (rCall R sp_can_follow (rCons (rVar 0) (rCons (rSl (rVar 1) rNoP (rPt (rVar 3))) rNil)))) (gNm 5) (rIfS (rTst (rBin ltD (rVar 5) (rVar 4))) (rSet 2 (rBin addD (rVar 2) (rCall R sp_rest_ways (rCons (rVar 0) (rCons (rBin addD (rSl (rVar 1) rNoP (rPt (rVar 3))) (rTup (rCons (rVar 5) rNil))) rNil))))) rNext)))
      (rRet (rVar 2))))))
def t_places_so (sp_lots_by_size : DSp) (sp_can_follow : DSp) (sp_rest_ways : DSp) (R : Er → List Sl → Prop) : TSd :=
    (rSeq (rSet 2 (rLst rNil))
      (rSeq (rFor (iSeq (rSl (rCall R sp_lots_by_size (rCons (rVar 0) rNil)) rNoP (rPt (rNeg (rC (.int 1)))))) (gNm 3) (rSeq (rSet 4 (rC (.int 0)))
      (rSeq (rFor (iSeq (rVar 3)) (gNm 5) (rIfS (rTst (rBin (inD false) (rVar 1) (rCall R sp_can_follow (rCons (rVar 0) (rCons (rVar 5) rNil))))) (rSet 4 (rBin addD (rVar 4) (rBin mulD (rBin ixD (rVar 3) (rVar 5)) (rCall R sp_rest_ways (rCons (rVar 0) (rCons (rBin addD (rVar 5) (rTup (rCons (rVar 1) rNil))) rNil)))))) rNext))
      (rDrop (rMet 2 appF (rCons (rVar 4) rNil))))))
      (rRet (rVar 2))))
def t_places (sp_places_so : DSp) (sp_look_at_player : DSp) (sp_look_at_cup : DSp) (R : Er → List Sl → Prop) : TSd :=
    (rSeq (rDrop (rCall R sp_look_at_cup (rCons (rVar 0) rNil)))
      (rSeq (rDrop (rCall R sp_look_at_player (rCons (rVar 0) (rCons (rVar 1) rNil))))
      (rRet (rLc [2, 3] (iEnm (rCons (rCall R sp_places_so (rCons (rVar 0) (rCons (rVar 1) rNil))) rNil)) (gTp 2 (gCn (gNm 2) (gCn (gNm 3) gNl))) (rTst (rBin gtD (rVar 3) (rC (.int 0)))) (rTup (rCons (rBin addD (rVar 2) (rC (.int 1))) (rCons (rVar 3) rNil)))))))
def t_mean_place (sp_common : DSp) (sp_ways : DSp) (sp_places_so : DSp) (sp_look_at_player : DSp) (sp_look_at_cup : DSp) (R : Er → List Sl → Prop) : TSd :=
    (rSeq (rDrop (rCall R sp_look_at_cup (rCons (rVar 0) rNil)))
      (rSeq (rDrop (rCall R sp_look_at_player (rCons (rVar 0) (rCons (rVar 1) rNil))))
      (rSeq (rSet 2 (rCB sumD (rCons (rLc [5, 6] (iEnm (rCons (rCall R sp_places_so (rCons (rVar 0) (rCons (rVar 1) rNil))) rNil)) (gTp 2 (gCn (gNm 5) (gCn (gNm 6) gNl))) (fun ρ Q => Q true ρ) (rBin mulD (rBin addD (rVar 5) (rC (.int 1))) (rVar 6))) rNil)))
      (rSeq (rSet 3 (rCall R sp_ways (rCons (rVar 0) (rCons (rLRg (rC (.int 0)) (rBin ixD (rVar 0) (rC (.int 0)))) rNil))))
      (rSeq (rSet 4 (rCall R sp_common (rCons (rVar 2) (rCons (rVar 3) rNil))))
      (rRet (rTup (rCons (rBin divD (rVar 2) (rVar 4)) (rCons (rBin divD (rVar 3) (rVar 4)) rNil)))))))))
def t__law_cup_3 (sp__law_take : DSp) (R : Er → List Sl → Prop) : TSd :=
    (rSeq (rSet 2 (rBin addD (rC (.int 1)) (rCallB R sp__law_take (rCons (rVar 0) (rCons (rVar 1) rNil)))))
      (rSeq (rPar 4 5 (rLRg (rC (.int 0)) (rVar 2)) (rTup rNil))
      (rSeq (rFor (iRng (rCons (rCallB R sp__law_take (rCons (rVar 0) (rCons (rVar 2) rNil))) rNil)) (gNm 3) (rSeq (rSet 6 (rMet 4 popAtF (rCons (rCallB R sp__law_take (rCons (rVar 0) (rCons (rCB lenD (rCons (rVar 4) rNil)) rNil))) rNil)))
      (rSeq (rIfS (rTst (rBin (eqD true) (rVar 4) (rLst rNil))) (rSet 5 (rBin addD (rVar 5) (rTup (rCons (rTup (rCons (rVar 6) (rCons (rMet 4 popAtF (rCons (rCallB R sp__law_take (rCons (rVar 0) (rCons (rCB lenD (rCons (rVar 4) rNil)) rNil))) rNil)) rNil))) rNil)))) rNext)
      (rDrop (rMet 4 appF (rCons (rVar 6) rNil))))))
      (rRet (rTup (rCons (rVar 2) (rCons (rVar 5) rNil)))))))
def t_best_lots (a_NoNumber : Addr) (sp_rest_ways : DSp) (sp_lots_by_size : DSp) (sp_is_within : DSp) (sp_look_at_cup : DSp) (R : Er → List Sl → Prop) : TSd :=
    (rSeq (rDrop (rCall R sp_look_at_cup (rCons (rVar 0) rNil)))
      (rSeq (rIfS (rNotT (rTst (rCall R sp_is_within (rCons (rVar 1) (rCons (rC (.int 0)) (rCons (rBin ixD (rVar 0) (rC (.int 0))) rNil)))))) (rRaise R a_NoNumber) rNext)
      (rSeq (rSet 2 (rBin ixD (rCall R sp_lots_by_size (rCons (rVar 0) rNil)) (rVar 1)))
      (rRet (rLc [3] (iSeq (rCB sorted2D (rCons (rVar 2) rNil))) (gNm 3) (fun ρ Q => Q true ρ) (rTup (rCons (rVar 3) (rCons (rBin mulD (rBin ixD (rVar 2) (rVar 3)) (rCall noR sp_rest_ways (rCons (rVar 0) (rCons (rVar 3) rNil)))) rNil))))))))
def t__law_strengths (sp__law_take : DSp) (R : Er → List Sl → Prop) : TSd :=
    (rSeq (rPar 2 3 (rLRg (rC (.int 0)) (rVar 1)) (rLst rNil))
      (rSeq (rWhile (rTst (rBin (eqD true) (rVar 2) (rLst rNil))) (rDrop (rMet 3 appF (rCons (rMet 2 popAtF (rCons (rCallB R sp__law_take (rCons (rVar 0) (rCons (rCB lenD (rCons (rVar 2) rNil)) rNil))) rNil)) rNil))))
      (rRet (rCB tupleXD (rCons (rVar 3) rNil)))))
def t__law_cup (sp__law_take : DSp) (sp__law_strengths : DSp) (R : Er → List Sl → Prop) : TSd :=
    (rSeq (rSet 2 (rBin addD (rC (.int 1)) (rCallB R sp__law_take (rCons (rVar 0) (rCons (rVar 1) rNil)))))
      (rSeq (rSet 3 (rCallB R sp__law_strengths (rCons (rVar 0) (rCons (rVar 2) rNil))))
      (rSeq (rPar 5 6 (rLRg (rC (.int 0)) (rVar 2)) (rLst rNil))
      (rSeq (rFor (iRng (rCons (rCallB R sp__law_take (rCons (rVar 0) (rCons (rVar 2) rNil))) rNil)) (gNm 4) (rSeq (rSet 7 (rMet 5 popAtF (rCons (rCallB R sp__law_take (rCons (rVar 0) (rCons (rCB lenD (rCons (rVar 5) rNil)) rNil))) rNil)))
      (rSeq (rSet 8 (rMet 5 popAtF (rCons (rCallB R sp__law_take (rCons (rVar 0) (rCons (rCB lenD (rCons (rVar 5) rNil)) rNil))) rNil)))
      (rSeq (rAsg (rIf (rTst (rBin ltD (rTIx (rVar 3) (rCons (rVar 7) rNil)) (rTIx (rVar 3) (rCons (rVar 8) rNil)))) (rTup (rCons (rVar 7) (rCons (rVar 8) rNil))) (rTup (rCons (rVar 8) (rCons (rVar 7) rNil)))) (gTp 2 (gCn (gNm 9) (gCn (gNm 10) gNl))))
      (rSeq (rDrop (rMet 6 appF (rCons (rTup (rCons (rVar 9) (rCons (rVar 10) rNil))) rNil)))
      (rDrop (rMet 5 appF (rCons (rVar 9) rNil))))))))
      (rRet (rTup (rCons (rTup (rCons (rVar 2) (rCons (rCB tupleD (rCons (rVar 6) rNil)) rNil))) (rCons (rWk (rVar 3)) rNil))))))))
def t__law_fits (R : Er → List Sl → Prop) : TSd :=
    (rRet (rBin (eqD false) (rLc [2, 3] (iSeq (rBin ixD (rVar 0) (rC (.int 1)))) (gTp 2 (gCn (gNm 2) (gCn (gNm 3) gNl))) (rTst (rBin gtD (rTIx (rVar 1) (rCons (rVar 2) rNil)) (rTIx (rVar 1) (rCons (rVar 3) rNil)))) (rC (.int 1))) (rLst rNil)))
def t__law_orders (R : Er → List Sl → Prop) : TSd :=
    (rSeq (rSet 1 (rLst (rCons (rTupX rNil) rNil)))
      (rSeq (rFor (iRng (rCons (rBin ixD (rVar 0) (rC (.int 0))) rNil)) (gNm 2) (rSeq (rSet 3 (rLst rNil))
      (rSeq (rFor (iSeq (rVar 1)) (gNm 4) (rFor (iRng (rCons (rBin ixD (rVar 0) (rC (.int 0))) rNil)) (gNm 5) (rSeq (rSet 6 (rLc [7, 8] (iSeq (rBin ixD (rVar 0) (rC (.int 1)))) (gTp 2 (gCn (gNm 7) (gCn (gNm 8) gNl))) (rAndT (rTst (rBin (eqD false) (rVar 8) (rVar 5))) (rTst (rBin (inD true) (rVar 7) (rWk (rVar 4))))) (rVar 7)))
      (rIfS (rAndT (rTst (rBin (inD true) (rVar 5) (rWk (rVar 4)))) (rTst (rBin (eqD false) (rVar 6) (rLst rNil)))) (rDrop (rMet 3 appF (rCons (rBin addXD (rVar 4) (rTupX (rCons (rVar 5) rNil))) rNil))) rNext))))
      (rSet 1 (rVar 3)))))
      (rRet (rVar 1))))
def t__law_fraction (R : Er → List Sl → Prop) : TSd :=
    (rSeq (rPar 2 3 (rVar 0) (rVar 1))
      (rSeq (rWhile (rTst (rBin (eqD true) (rVar 3) (rC (.int 0)))) (rPar 2 3 (rVar 3) (rBin modD (rVar 2) (rVar 3))))
      (rRet (rTup (rCons (rBin divD (rVar 0) (rVar 2)) (rCons (rBin divD (rVar 1) (rVar 2)) rNil))))))
def t__law_match (R : Er → List Sl → Prop) : TSd :=
    (rSeq (rSet 2 (rLst rNil))
      (rSeq (rFor (iRng (rCons (rBin ixD (rVar 0) (rC (.int 0))) rNil)) (gNm 3) (rFor (iRng (rCons (rBin addD (rVar 3) (rC (.int 1))) (rCons (rBin ixD (rVar 0) (rC (.int 0))) rNil))) (gNm 4) (rSeq (rSet 5 (rCB lenD (rCons (rLc [6] (iSeq (rVar 1)) (gNm 6) (rTst (rBin ltD (rTIx (rVar 6) (rCons (rVar 3) rNil)) (rTIx (rVar 6) (rCons (rVar 4) rNil)))) (rC (.int 1))) rNil)))
      (rIfS (rTst (rChain ltD ltD (rC (.int 0)) (rVar 5) (rCB lenD (rCons (rVar 1) rNil)))) (rDrop (rMet 2 appF (rCons (rTup (rCons (rCB max2D (rCons (rVar 5) (rCons (rBin subD (rCB lenD (rCons (rVar 1) rNil)) (rVar 5)) rNil))) (rCons (rVar 3) (rCons (rVar 4) rNil)))) rNil))) rNext))))
      (rRet (rIf (rTst (rBin (eqD true) (rVar 2) (rLst rNil))) (rTup (rCons (rBin ixD (rCB min1D (rCons (rVar 2) rNil)) (rC (.int 1))) (rCons (rBin ixD (rCB min1D (rCons (rVar 2) rNil)) (rC (.int 2))) (rCons (rBin ixD (rCB min1D (rCons (rVar 2) rNil)) (rC (.int 0))) rNil)))) (rC .non)))))
def t__law_numbers_so (sp_is_order : DSp) (sp__law_take : DSp) (sp__law_fits : DSp) (sp__law_same : DSp) (sp__law_strengths : DSp) (sp_number_of : DSp) (sp_order_at : DSp) (R : Er → List Sl → Prop) : TSd :=
    (rSeq (rSet 3 (rLRg (rC (.int 0)) (rCB lenD (rCons (rVar 2) rNil))))
      (rSeq (rIfS (rTst (rBin gtD (rCB lenD (rCons (rVar 2) rNil)) (rC (.int 120)))) (rSet 3 (rBin addD (rLst (rCons (rC (.int 0)) (rCons (rBin subD (rCB lenD (rCons (rVar 2) rNil)) (rC (.int 1))) rNil))) (rLc [5] (iRng (rCons (rC (.int 40)) rNil)) (gNm 5) (fun ρ Q => Q true ρ) (rCallB noR sp__law_take (rCons (rVar 0) (rCons (rCB lenD (rCons (rVar 2) rNil)) rNil)))))) rNext)
      (rSeq (rFor (iSeq (rVar 3)) (gNm 4) (rSeq (rSet 9 (rBin ixD (rVar 2) (rVar 4)))
      (rIfS (rOrT (rNotT (rTst (rCall R sp__law_same (rCons (rCall R sp_order_at (rCons (rVar 1) (rCons (rVar 4) rNil))) (rCons (rVar 9) rNil))))) (rNotT (rTst (rCall R sp__law_same (rCons (rCall R sp_number_of (rCons (rVar 1) (rCons (rVar 9) rNil))) (rCons (rVar 4) rNil)))))) (rRet (rC (.bl false))) rNext)))
      (rSeq (rFor (iRng (rCons (rC (.int 10)) rNil)) (gNm 5) (rSeq (rSet 9 (rCallB R sp__law_strengths (rCons (rVar 0) (rCons (rBin ixD (rVar 1) (rC (.int 0))) rNil))))
      (rIfS (rNotT (rTst (rCall R sp__law_same (rCons (rCall R sp_is_order (rCons (rVar 1) (rCons (rVar 9) rNil))) (rCons (rCall R sp__law_fits (rCons (rVar 1) (rCons (rVar 9) rNil))) rNil))))) (rRet (rC (.bl false))) rNext)))
      (rSeq (rSet 6 (rBin ixD (rVar 2) (rCallB R sp__law_take (rCons (rVar 0) (rCons (rCB lenD (rCons (rVar 2) rNil)) rNil)))))
      (rSeq (rSet 7 (rLst (rCons (rCB listD (rCons (rVar 6) rNil)) (rCons (rSl (rVar 6) (rPt (rC (.int 1))) rNoP) (rCons (rBin addD (rVar 6) (rSl (rVar 6) rNoP (rPt (rC (.int 1))))) (rCons (rC .non) (rCons (rBin addD (rSl (rVar 6) rNoP (rPt (rNeg (rC (.int 1))))) (rTup (rCons (rC (.bl true)) rNil))) (rCons (rBin addD (rSl (rVar 6) rNoP (rPt (rNeg (rC (.int 1))))) (rTup (rCons (rC (.int 10)) rNil))) rNil))))))))
      (rSeq (rFor (iSeq (rVar 7)) (gNm 8) (rIfS (rAndT (rTst (rBin (eqD true) (rVar 8) (rVar 6))) (rTst (rBin (isN true) (rCall R sp_is_order (rCons (rVar 1) (rCons (rVar 8) rNil))) (rC (.bl false))))) (rRet (rC (.bl false))) rNext))
      (rRet (rC (.bl true))))))))))
def t__law_sizes (R : Er → List Sl → Prop) : TSd :=
    (rSeq (rSet 1 (rBin mulD (rLst (rCons (rC (.int 1)) rNil)) (rBin ixD (rVar 0) (rC (.int 0)))))
      (rSeq (rFor (iSeq (rBin ixD (rVar 0) (rC (.int 1)))) (gTp 2 (gCn (gNm 2) (gCn (gNm 3) gNl))) (rSto 1 (rVar 2) (rBin addD (rBin ixD (rVar 1) (rVar 2)) (rBin ixD (rVar 1) (rVar 3)))))
      (rRet (rVar 1))))
def t__law_ways (sp__law_sizes : DSp) (R : Er → List Sl → Prop) : TSd :=
    (rSeq (rSet 1 (rC (.int 1)))
      (rSeq (rFor (iRng (rCons (rC (.int 2)) (rCons (rBin addD (rBin ixD (rVar 0) (rC (.int 0))) (rC (.int 1))) rNil))) (gNm 2) (rSet 1 (rBin mulD (rVar 1) (rVar 2))))
      (rSeq (rFor (iSeq (rCall R sp__law_sizes (rCons (rVar 0) rNil))) (gNm 3) (rSet 1 (rBin divD (rVar 1) (rVar 3))))
      (rRet (rVar 1)))))
def t__law_numbers_so_2 (sp_order_at : DSp) (sp_number_of : DSp) (sp__law_fits : DSp) (sp__law_take : DSp) (R : Er → List Sl → Prop) : TSd :=
    (rSeq (rSet 4 (rCall R sp_number_of (rCons (rVar 1) (rCons (rVar 2) rNil))))
      (rSeq (rIfS (rOrT (rNotT (rTst (rChain leD ltD (rC (.int 0)) (rVar 4) (rVar 3)))) (rTst (rBin (eqD true) (rCall R sp_order_at (rCons (rVar 1) (rCons (rVar 4) rNil))) (rVar 2)))) (rRet (rC (.bl false))) rNext)
      (rSeq (rFor (iRng (rCons (rC (.int 4)) rNil)) (gNm 5) (rSeq (rSet 6 (rCallB R sp__law_take (rCons (rVar 0) (rCons (rVar 3) rNil))))
      (rSeq (rSet 7 (rCall R sp_order_at (rCons (rVar 1) (rCons (rVar 6) rNil))))
      (rIfS (rOrT (rNotT (rTst (rCall R sp__law_fits (rCons (rVar 1) (rCons (rVar 7) rNil))))) (rOrT (rTst (rBin (eqD true) (rCall R sp_number_of (rCons (rVar 1) (rCons (rVar 7) rNil))) (rVar 6))) (rTst (rBin (eqD true) (rBin ltD (rVar 7) (rVar 2)) (rBin ltD (rVar 6) (rVar 4)))))) (rRet (rC (.bl false))) rNext))))
      (rRet (rChain leD leD (rCall R sp_order_at (rCons (rVar 1) (rCons (rC (.int 0)) rNil))) (rVar 2) (rCall R sp_order_at (rCons (rVar 1) (rCons (rBin subD (rVar 3) (rC (.int 1))) rNil))))))))
def t__law_match_more (sp_ahead : DSp) (sp_how_many : DSp) (sp__law_fits : DSp) (sp_is_order : DSp) (sp__law_take : DSp) (sp_order_at : DSp) (sp_best_match : DSp) (sp_unbeaten : DSp) (R : Er → List Sl → Prop) : TSd :=
    (rSeq (rSet 3 (rCall R sp_unbeaten (rCons (rVar 1) rNil)))
      (rSeq (rIfS (rTst (rBin ltD (rCB lenD (rCons (rVar 3) rNil)) (rC (.int 2)))) (rRet (rOr (rBin (isN false) (rCall R sp_best_match (rCons (rVar 1) rNil)) (rC .non)) (rBin gtD (rVar 2) (rC (.int 1))))) rNext)
      (rSeq (rSet 4 (rBin ixD (rVar 3) (rCallB R sp__law_take (rCons (rVar 0) (rCons (rCB lenD (rCons (rVar 3) rNil)) rNil)))))
      (rSeq (rSet 5 (rLc [6] (iSeq (rVar 3)) (gNm 6) (rTst (rBin (eqD true) (rVar 6) (rVar 4))) (rVar 6)))
      (rSeq (rSet 6 (rBin ixD (rVar 5) (rCallB R sp__law_take (rCons (rVar 0) (rCons (rCB lenD (rCons (rVar 5) rNil)) rNil)))))
      (rSeq (rPar 8 9 (rTup (rCons (rBin ixD (rVar 1) (rC (.int 0))) (rCons (rBin addD (rBin ixD (rVar 1) (rC (.int 1))) (rTup (rCons (rTup (rCons (rVar 4) (rCons (rVar 6) rNil))) rNil))) rNil))) (rTup (rCons (rBin ixD (rVar 1) (rC (.int 0))) (rCons (rBin addD (rBin ixD (rVar 1) (rC (.int 1))) (rTup (rCons (rTup (rCons (rVar 6) (rCons (rVar 4) rNil))) rNil))) rNil))))
      (rSeq (rIfS (rTst (rBin (eqD true) (rBin addD (rCall R sp_how_many (rCons (rVar 8) rNil)) (rCall R sp_how_many (rCons (rVar 9) rNil))) (rVar 2))) (rRet (rC (.bl false))) rNext)
      (rSeq (rFor (iSeq (rTup (rCons (rVar 8) (rCons (rVar 9) rNil)))) (gNm 7) (rSeq (rSet 10 (rCall R sp_order_at (rCons (rVar 7) (rCons (rCallB R sp__law_take (rCons (rVar 0) (rCons (rCall R sp_how_many (rCons (rVar 7) rNil)) rNil))) rNil))))
      (rIfS (rOrT (rTst (rBin (isN true) (rCall R sp_is_order (rCons (rVar 1) (rCons (rVar 10) rNil))) (rC (.bl true)))) (rNotT (rTst (rCall R sp__law_fits (rCons (rVar 7) (rCons (rVar 10) rNil)))))) (rRet (rC (.bl false))) rNext)))
      (rRet (rAnd (rBin (eqD false) (rCall R sp_ahead (rCons (rVar 1) (rCons (rVar 4) (rCons (rVar 6) rNil)))) (rTup (rCons (rCall R sp_how_many (rCons (rVar 8) rNil)) (rCons (rVar 2) rNil)))) (rBin (eqD false) (rCall R sp_ahead (rCons (rVar 1) (rCons (rVar 6) (rCons (rVar 4) rNil)))) (rTup (rCons (rCall R sp_how_many (rCons (rVar 9) rNil)) (rCons (rVar 2) rNil))))))))))))))
def t__law_next (R : Er → List Sl → Prop) : TSd :=
    (rSeq (rSet 2 (rLc [4, 5] (iSeq (rBin ixD (rVar 0) (rC (.int 1)))) (gTp 2 (gCn (gNm 4) (gCn (gNm 5) gNl))) (rTst (rBin (inD true) (rVar 4) (rVar 1))) (rVar 5)))
      (rRet (rLc [3] (iRng (rCons (rBin ixD (rVar 0) (rC (.int 0))) rNil)) (gNm 3) (rAndT (rTst (rBin (inD true) (rVar 3) (rVar 1))) (rTst (rBin (inD true) (rVar 3) (rVar 2)))) (rVar 3))))
def t__law_rest (sp__law_next : DSp) (sp__law_rest : DSp) (R : Er → List Sl → Prop) : TSd :=
    (rSeq (rIfS (rTst (rBin (eqD false) (rCB lenD (rCons (rVar 2) rNil)) (rBin ixD (rVar 0) (rC (.int 0))))) (rRet (rC (.int 1))) rNext)
      (rSeq (rIfS (rTst (rBin (inD true) (rVar 2) (rVar 1))) (rSto 1 (rVar 2) (rCB sumD (rCons (rLc [3] (iSeq (rCall R sp__law_next (rCons (rVar 0) (rCons (rVar 2) rNil)))) (gNm 3) (fun ρ Q => Q true ρ) (rCall noR sp__law_rest (rCons (rVar 0) (rCons (rVar 1) (rCons (rCB tupleD (rCons (rCB sorted2D (rCons (rBin addD (rVar 2) (rTup (rCons (rVar 3) rNil))) rNil)) rNil)) rNil))))) rNil))) rNext)
      (rRet (rBin ixD (rVar 1) (rVar 2)))))
def t__law_plus (R : Er → List Sl → Prop) : TSd :=
    (rSeq (rPar 2 3 (rBin addD (rBin mulD (rBin ixD (rVar 0) (rC (.int 0))) (rBin ixD (rVar 1) (rC (.int 1)))) (rBin mulD (rBin ixD (rVar 1) (rC (.int 0))) (rBin ixD (rVar 0) (rC (.int 1))))) (rBin mulD (rBin ixD (rVar 0) (rC (.int 1))) (rBin ixD (rVar 1) (rC (.int 1)))))
      (rSeq (rPar 4 5 (rVar 2) (rVar 3))
      (rSeq (rWhile (rTst (rBin (eqD true) (rVar 5) (rC (.int 0)))) (rPar 4 5 (rVar 5) (rBin modD (rVar 4) (rVar 5))))
      (rRet (rTup (rCons (rBin divD (rVar 2) (rVar 4)) (rCons (rBin divD (rVar 3) (rVar 4)) rNil)))))))
def t__law_written (sp_number_of : DSp) (sp_order_at : DSp) (sp_best_match : DSp) (sp_ahead : DSp) (sp_places : DSp) (sp_mean_place : DSp) (sp_best_lots : DSp) (sp_how_many : DSp) (R : Er → List Sl → Prop) : TSd :=
    (rSeq (rSet 0 (rTup (rCons (rC (.int 4)) (rCons (rTup (rCons (rTup (rCons (rC (.int 0)) (rCons (rC (.int 1)) rNil))) (rCons (rTup (rCons (rC (.int 2)) (rCons (rC (.int 3)) rNil))) (rCons (rTup (rCons (rC (.int 0)) (rCons (rC (.int 2)) rNil))) rNil)))) rNil))))
      (rSeq (rIfS (rOrT (rTst (rBin (eqD true) (rCall R sp_how_many (rCons (rVar 0) rNil)) (rC (.int 3)))) (rOrT (rTst (rBin (eqD true) (rCall R sp_best_lots (rCons (rVar 0) (rCons (rC (.int 2)) rNil))) (rLst (rCons (rTup (rCons (rTup (rCons (rC (.int 0)) (rCons (rC (.int 1)) rNil))) (rCons (rC (.int 1)) rNil))) (rCons (rTup (rCons (rTup (rCons (rC (.int 0)) (rCons (rC (.int 2)) rNil))) (rCons (rC (.int 2)) rNil))) rNil))))) (rTst (rBin (eqD true) (rCall R sp_mean_place (rCons (rVar 0) (rCons (rC (.int 3)) rNil))) (rTup (rCons (rC (.int 11)) (rCons (rC (.int 3)) rNil))))))) (rRet (rC (.bl false))) rNext)
      (rSeq (rIfS (rOrT (rTst (rBin (eqD true) (rCall R sp_places (rCons (rVar 0) (rCons (rC (.int 1)) rNil))) (rLst (rCons (rTup (rCons (rC (.int 2)) (rCons (rC (.int 1)) rNil))) (rCons (rTup (rCons (rC (.int 3)) (rCons (rC (.int 1)) rNil))) (rCons (rTup (rCons (rC (.int 4)) (rCons (rC (.int 1)) rNil))) rNil)))))) (rOrT (rTst (rBin (eqD true) (rCall R sp_ahead (rCons (rVar 0) (rCons (rC (.int 2)) (rCons (rC (.int 1)) rNil)))) (rTup (rCons (rC (.int 2)) (rCons (rC (.int 3)) rNil))))) (rTst (rBin (eqD true) (rCall R sp_best_match (rCons (rVar 0) rNil)) (rTup (rCons (rC (.int 1)) (rCons (rC (.int 2)) (rCons (rC (.int 2)) rNil)))))))) (rRet (rC (.bl false))) rNext)
      (rRet (rAnd (rBin (eqD false) (rCall R sp_order_at (rCons (rVar 0) (rCons (rC (.int 0)) rNil))) (rTup (rCons (rC (.int 0)) (rCons (rC (.int 1)) (rCons (rC (.int 2)) (rCons (rC (.int 3)) rNil)))))) (rAnd (rBin (eqD false) (rCall R sp_order_at (rCons (rVar 0) (rCons (rC (.int 2)) rNil))) (rTup (rCons (rC (.int 0)) (rCons (rC (.int 2)) (rCons (rC (.int 3)) (rCons (rC (.int 1)) rNil)))))) (rBin (eqD false) (rCall R sp_number_of (rCons (rVar 0) (rCons (rTup (rCons (rC (.int 0)) (rCons (rC (.int 2)) (rCons (rC (.int 1)) (rCons (rC (.int 3)) rNil))))) rNil))) (rC (.int 1)))))))))
def t__law_renamed (R : Er → List Sl → Prop) : TSd :=
    (rRet (rTup (rCons (rBin ixD (rVar 0) (rC (.int 0))) (rCons (rCB tupleD (rCons (rLc [2, 3] (iSeq (rBin ixD (rVar 0) (rC (.int 1)))) (gTp 2 (gCn (gNm 2) (gCn (gNm 3) gNl))) (fun ρ Q => Q true ρ) (rTup (rCons (rBin ixD (rVar 1) (rVar 2)) (rCons (rBin ixD (rVar 1) (rVar 3)) rNil)))) rNil)) rNil))))
def t__law_idle_so (sp_ahead : DSp) (sp_places : DSp) (sp_stronger : DSp) (sp_weaker : DSp) (sp_how_many : DSp) (R : Er → List Sl → Prop) : TSd :=
    (rSeq (rSet 2 (rLc [3] (iRng (rCons (rBin ixD (rVar 0) (rC (.int 0))) rNil)) (gNm 3) (fun ρ Q => Q true ρ) (rBin addD (rVar 3) (rCB intOfD (rCons (rBin geD (rVar 3) (rVar 1)) rNil)))))
      (rSeq (rAsg (rTup (rCons (rTup (rCons (rBin addD (rBin ixD (rVar 0) (rC (.int 0))) (rC (.int 1))) (rCons (rCB tupleD (rCons (rLc [9, 10] (iSeq (rBin ixD (rVar 0) (rC (.int 1)))) (gTp 2 (gCn (gNm 9) (gCn (gNm 10) gNl))) (fun ρ Q => Q true ρ) (rTup (rCons (rBin ixD (rVar 2) (rVar 9)) (rCons (rBin ixD (rVar 2) (rVar 10)) rNil)))) rNil)) rNil))) (rCons (rCall R sp_how_many (rCons (rVar 0) rNil)) rNil))) (gTp 2 (gCn (gNm 4) (gCn (gNm 5) gNl))))
      (rSeq (rIfS (rOrT (rTst (rBin (eqD true) (rCall R sp_how_many (rCons (rVar 4) rNil)) (rBin mulD (rVar 5) (rBin ixD (rVar 4) (rC (.int 0)))))) (rOrT (rTst (rBin (eqD true) (rCall R sp_weaker (rCons (rVar 4) (rCons (rVar 1) rNil))) (rLst rNil))) (rTst (rBin (eqD true) (rCall R sp_stronger (rCons (rVar 4) (rCons (rVar 1) rNil))) (rLst rNil))))) (rRet (rC (.bl false))) rNext)
      (rSeq (rIfS (rTst (rBin (eqD true) (rCall R sp_places (rCons (rVar 4) (rCons (rVar 1) rNil))) (rLc [8] (iRng (rCons (rC (.int 1)) (rCons (rBin addD (rBin ixD (rVar 4) (rC (.int 0))) (rC (.int 1))) rNil))) (gNm 8) (fun ρ Q => Q true ρ) (rTup (rCons (rVar 8) (rCons (rVar 5) rNil)))))) (rRet (rC (.bl false))) rNext)
      (rSeq (rSet 3 (rBin ixD (rVar 2) (rC (.int 0))))
      (rSeq (rAsg (rCall R sp_ahead (rCons (rVar 4) (rCons (rVar 3) (rCons (rVar 1) rNil)))) (gTp 2 (gCn (gNm 6) (gCn (gNm 7) gNl))))
      (rRet (rAnd (rBin (eqD false) (rVar 7) (rBin mulD (rVar 5) (rBin ixD (rVar 4) (rC (.int 0))))) (rBin (eqD false) (rBin addD (rVar 6) (rBin ixD (rCall R sp_ahead (rCons (rVar 4) (rCons (rVar 1) (rCons (rVar 3) rNil)))) (rC (.int 0)))) (rVar 7))))))))))
def t__law_mark (sp__law_direct : DSp) (sp__law_mark : DSp) (R : Er → List Sl → Prop) : TSd :=
    (rRet (rCB sorted2D (rCons (rLc [2] (iSeq (rCall R sp__law_direct (rCons (rVar 0) (rCons (rVar 1) rNil)))) (gNm 2) (fun ρ Q => Q true ρ) (rCall noR sp__law_mark (rCons (rVar 0) (rCons (rVar 2) rNil)))) rNil)))
def t__law_played (R : Er → List Sl → Prop) : TSd :=
    (rRet (rBin addD (rBin addD (rSl (rVar 0) rNoP (rPt (rVar 2))) (rTup (rCons (rVar 1) rNil))) (rSl (rVar 0) (rPt (rBin addD (rVar 2) (rC (.int 1)))) rNoP)))
def t__law_strong_field (sp__law_take : DSp) (R : Er → List Sl → Prop) : TSd :=
    (rSeq (rSet 2 (rBin mulD (rLst (rCons (rC .non) rNil)) (rCB lenD (rCons (rVar 1) rNil))))
      (rSeq (rFor (iRng (rCons (rC (.int 1)) (rCons (rCB lenD (rCons (rVar 1) rNil)) rNil))) (gNm 3) (rIfS (rTst (rBin gtD (rCallB R sp__law_take (rCons (rVar 0) (rCons (rC (.int 3)) rNil))) (rC (.int 0)))) (rSto 2 (rBin ixD (rVar 1) (rVar 3)) (rBin ixD (rVar 1) (rCallB R sp__law_take (rCons (rVar 0) (rCons (rVar 3) rNil))))) rNext))
      (rRet (rCB tupleD (rCons (rVar 2) rNil)))))
end KB
namespace K12
open PySem PySem.Spec PyProof.Rows L2 DL LamX HotX KB
abbrev Xp : Program := PySem.Challenge.pw_knockback_k12_whole_shares_in_small_fiel
def top (i : Nat) : Stmt := Xp.main.body.getD i (.Pass ⟨0, 0, 0, 0⟩)
section
variable {P : Program} {w : World} {K : PySem.W.Frag} {mg : Str → Option Value} {base : Heap} {T : Tz}
abbrev s_is_whole : Stmt := top 13
abbrev N_is_whole : List Str := ["thing"]
theorem sc_is_whole : FnScope N_is_whole ["thing"] (defScope s_is_whole) := ⟨rfl, rfl, rfl, by decide +kernel, rfl, by decide +kernel, by decide +kernel⟩
theorem w_is_whole {k : Nat} (b_bool : mg "bool" = none) (b_int : mg "int" = none) (b_isinstance : mg "isinstance" = none) (f : Addr) (cdv : Value) (A : Around) (outer : List Env) (s : Shared) (H : Hp) (E : XK) (S0 : Sx) (W : WX) (R : Er → List Sl → Prop) :
    PSsd ⟨cxD P w K mg base N_is_whole "is_whole" s_is_whole f cdv A outer s H E, T, S0, W, R, k⟩ (defBody s_is_whole) (t_is_whole R) :=
    (dss_one (ds_ret (d_and (d_isi .tInt (by rfl) b_isinstance (by rfl) b_int bt_int (dv 0)) (d_one (d_not (d_isi .tBool (by rfl) b_isinstance (by rfl) b_bool bt_bool (dv 0)))))))
abbrev s_is_within : Stmt := top 14
abbrev N_is_within : List Str := ["thing", "low", "high"]
theorem sc_is_within : FnScope N_is_within ["thing", "low", "high"] (defScope s_is_within) := ⟨rfl, rfl, rfl, by decide +kernel, rfl, by decide +kernel, by decide +kernel⟩
theorem w_is_within {k : Nat} {sp_is_whole : DSp} {k_is_whole : Nat} (G_is_whole : Cal P w K mg base T k_is_whole "is_whole" 1 sp_is_whole) (hk_is_whole : k_is_whole ≤ k) (f : Addr) (cdv : Value) (A : Around) (outer : List Env) (s : Shared) (H : Hp) (E : XK) (S0 : Sx) (W : WX) (R : Er → List Sl → Prop) :
    PSsd ⟨cxD P w K mg base N_is_within "is_within" s_is_within f cdv A outer s H E, T, S0, W, R, k⟩ (defBody s_is_within) (t_is_within sp_is_whole R) :=
    (dss_one (ds_ret (d_and (d_own G_is_whole hk_is_whole (da_cons (dv 0) da_nil)) (d_one (d_chain o_le o_le (dv 1) (dv 0) (dv 2))))))
abbrev s_comes_up : Stmt := top 17
abbrev N_comes_up : List Str := ["field", "player", "turn"]
theorem sc_comes_up : FnScope N_comes_up ["field", "player"] (defScope s_comes_up) := ⟨rfl, rfl, rfl, by decide +kernel, rfl, by decide +kernel, by decide +kernel⟩
theorem w_comes_up {k : Nat} (b_len : mg "len" = none) (b_range : mg "range" = none) (f : Addr) (cdv : Value) (A : Around) (outer : List Env) (s : Shared) (H : Hp) (E : XK) (S0 : Sx) (W : WX) (R : Er → List Sl → Prop) :
    PSsd ⟨cxD P w K mg base N_comes_up "comes_up" s_comes_up f cdv A outer s H E, T, S0, W, R, k⟩ (defBody s_comes_up) (t_comes_up R) :=
    (dss_cons (ds_for (di_rng1 (by rfl) b_range (d_callB c_len (by rfl) b_len bt_len (da_cons (dv 0) da_nil))) (dg_name 2 rfl (by first | exact Or.inl rfl | exact Or.inr rfl)) (dss_cons (ds_if (d_tcmp o_isN (d_ix (dv 0) (dv 1)) d_non) (dss_one (ds_ret d_bl)) dss_nil)
      (dss_one (ds_set 1 rfl (by first | exact Or.inl rfl | exact Or.inr rfl) (d_ix (dv 0) (dv 1))))))
      (dss_one (ds_ret d_bl)))
abbrev s_is_field : Stmt := top 18
abbrev N_is_field : List Str := ["value", "player", "above"]
theorem sc_is_field : FnScope N_is_field ["value"] (defScope s_is_field) := ⟨rfl, rfl, rfl, by decide +kernel, rfl, by decide +kernel, by decide +kernel⟩
theorem w_is_field {k : Nat} {sp_comes_up : DSp} {k_comes_up : Nat} (G_comes_up : Cal P w K mg base T k_comes_up "comes_up" 2 sp_comes_up) (hk_comes_up : k_comes_up ≤ k) {sp_is_within : DSp} {k_is_within : Nat} (G_is_within : Cal P w K mg base T k_is_within "is_within" 3 sp_is_within) (hk_is_within : k_is_within ≤ k) (b_all : mg "all" = none) (b_isinstance : mg "isinstance" = none) (b_len : mg "len" = none) (b_range : mg "range" = none) (b_tuple : mg "tuple" = none) (c_MOST_FIELD : ∃ t, mg "MOST_FIELD" = some (.int 60 t)) (f : Addr) (cdv : Value) (A : Around) (outer : List Env) (s : Shared) (H : Hp) (E : XK) (S0 : Sx) (W : WX) (R : Er → List Sl → Prop) :
    PSsd ⟨cxD P w K mg base N_is_field "is_field" s_is_field f cdv A outer s H E, T, S0, W, R, k⟩ (defBody s_is_field) (t_is_field sp_comes_up sp_is_within R) :=
    (dss_cons (ds_if (dw_t (dw_or (d_notT (d_tst (d_isi .tTup (by rfl) b_isinstance (by rfl) b_tuple bt_tuple (dv 0)))) (dw_or1 (d_notT (d_tchain o_le o_le d_int (d_callB c_len (by rfl) b_len bt_len (da_cons (dv 0) da_nil)) (d_globI (by rfl) c_MOST_FIELD)))))) (dss_one (ds_ret d_bl)) dss_nil)
      (dss_cons (ds_if (d_notT (d_tst (d_callB c_all (by rfl) b_all bt_all (da_cons (d_lc (own := [("above", 2)]) (di_seq (dv 0)) (by (show BlkOk N_is_field (defScope s_is_field) _ _); exact ⟨rfl, by decide +kernel, by decide +kernel, by decide +kernel, by decide +kernel⟩) (fun _ _ _ _ _ _ => (dx_name 2 (by simp) rfl (by first | exact Or.inl rfl | exact Or.inr rfl))) (fun _ _ _ _ _ _ => pif_no) (fun _ _ _ _ _ _ => (d_or (d_cmp o_isN (dv 2) d_non) (d_one (d_own G_is_within hk_is_within (da_cons (dv 2) (da_cons d_int (da_cons (d_bin o_sub (d_callB c_len (by rfl) b_len bt_len (da_cons (dv 0) da_nil)) d_int) da_nil)))))))) da_nil)))) (dss_one (ds_ret d_bl)) dss_nil)
      (dss_one (ds_ret (d_callB c_all (by rfl) b_all bt_all (da_cons (d_lc (own := [("player", 1)]) (di_rng1 (by rfl) b_range (d_callB c_len (by rfl) b_len bt_len (da_cons (dv 0) da_nil))) (by (show BlkOk N_is_field (defScope s_is_field) _ _); exact ⟨rfl, by decide +kernel, by decide +kernel, by decide +kernel, by decide +kernel⟩) (fun _ _ _ _ _ _ => (dx_name 1 (by simp) rfl (by first | exact Or.inl rfl | exact Or.inr rfl))) (fun _ _ _ _ _ _ => pif_no) (fun _ _ _ _ _ _ => (d_own G_comes_up hk_comes_up (da_cons (dv 0) (da_cons (dv 1) da_nil))))) da_nil))))))
abbrev s_look_at_field : Stmt := top 19
abbrev N_look_at_field : List Str := ["field"]
theorem sc_look_at_field : FnScope N_look_at_field ["field"] (defScope s_look_at_field) := ⟨rfl, rfl, rfl, by decide +kernel, rfl, by decide +kernel, by decide +kernel⟩
theorem w_look_at_field {k : Nat} {a_NoField : Addr} {sp_is_field : DSp} {k_is_field : Nat} (G_is_field : Cal P w K mg base T k_is_field "is_field" 1 sp_is_field) (hk_is_field : k_is_field ≤ k) (x_NoField : ExF K mg "NoField" a_NoField) (f : Addr) (cdv : Value) (A : Around) (outer : List Env) (s : Shared) (H : Hp) (E : XK) (S0 : Sx) (W : WX) (R : Er → List Sl → Prop) :
    PSsd ⟨cxD P w K mg base N_look_at_field "look_at_field" s_look_at_field f cdv A outer s H E, T, S0, W, R, k⟩ (defBody s_look_at_field) (t_look_at_field a_NoField sp_is_field R) :=
    (dss_one (ds_if (d_notT (d_tst (d_own G_is_field hk_is_field (da_cons (dv 0) da_nil)))) (dss_one (ds_raise x_NoField)) dss_nil))
abbrev s_look_at_one : Stmt := top 20
abbrev N_look_at_one : List Str := ["field", "player"]
theorem sc_look_at_one : FnScope N_look_at_one ["field", "player"] (defScope s_look_at_one) := ⟨rfl, rfl, rfl, by decide +kernel, rfl, by decide +kernel, by decide +kernel⟩
theorem w_look_at_one {k : Nat} {a_NoPlayer : Addr} {sp_is_within : DSp} {k_is_within : Nat} (G_is_within : Cal P w K mg base T k_is_within "is_within" 3 sp_is_within) (hk_is_within : k_is_within ≤ k) (b_len : mg "len" = none) (x_NoPlayer : ExF K mg "NoPlayer" a_NoPlayer) (f : Addr) (cdv : Value) (A : Around) (outer : List Env) (s : Shared) (H : Hp) (E : XK) (S0 : Sx) (W : WX) (R : Er → List Sl → Prop) :
    PSsd ⟨cxD P w K mg base N_look_at_one "look_at_one" s_look_at_one f cdv A outer s H E, T, S0, W, R, k⟩ (defBody s_look_at_one) (t_look_at_one a_NoPlayer sp_is_within R) :=
    (dss_one (ds_if (d_notT (d_tst (d_own G_is_within hk_is_within (da_cons (dv 1) (da_cons d_int (da_cons (d_bin o_sub (d_callB c_len (by rfl) b_len bt_len (da_cons (dv 0) da_nil)) d_int) da_nil)))))) (dss_one (ds_raise x_NoPlayer)) dss_nil))
abbrev s_way_up : Stmt := top 21
abbrev N_way_up : List Str := ["field", "player", "above"]
theorem sc_way_up : FnScope N_way_up ["field", "player"] (defScope s_way_up) := ⟨rfl, rfl, rfl, by decide +kernel, rfl, by decide +kernel, by decide +kernel⟩
theorem w_way_up {k : Nat} {sp_way_up : DSp} {k_way_up : Nat} (G_way_up : Cal P w K mg base T k_way_up "way_up" 2 sp_way_up) (hk_way_up : k_way_up ≤ k) (f : Addr) (cdv : Value) (A : Around) (outer : List Env) (s : Shared) (H : Hp) (E : XK) (S0 : Sx) (W : WX) (R : Er → List Sl → Prop) :
    PSsd ⟨cxD P w K mg base N_way_up "way_up" s_way_up f cdv A outer s H E, T, S0, W, R, k⟩ (defBody s_way_up) (t_way_up sp_way_up R) :=
    (dss_cons (ds_set 2 rfl (by first | exact Or.inl rfl | exact Or.inr rfl) (d_ix (dv 0) (dv 1)))
      (dss_one (ds_ret (d_ifx (d_tcmp o_isN (dv 2) d_non) (d_lst (da_cons (dv 1) da_nil)) (d_bin o_add (d_lst (da_cons (dv 1) da_nil)) (d_own G_way_up hk_way_up (da_cons (dv 0) (da_cons (dv 2) da_nil))))))))
abbrev s_sizes_of : Stmt := top 22
abbrev N_sizes_of : List Str := ["field", "player"]
theorem sc_sizes_of : FnScope N_sizes_of ["field"] (defScope s_sizes_of) := ⟨rfl, rfl, rfl, by decide +kernel, rfl, by decide +kernel, by decide +kernel⟩
theorem w_sizes_of {k : Nat} {sp_part_of : DSp} {k_part_of : Nat} (G_part_of : Cal P w K mg base T k_part_of "part_of" 2 sp_part_of) (hk_part_of : k_part_of ≤ k) (b_len : mg "len" = none) (b_range : mg "range" = none) (f : Addr) (cdv : Value) (A : Around) (outer : List Env) (s : Shared) (H : Hp) (E : XK) (S0 : Sx) (W : WX) (R : Er → List Sl → Prop) :
    PSsd ⟨cxD P w K mg base N_sizes_of "sizes_of" s_sizes_of f cdv A outer s H E, T, S0, W, R, k⟩ (defBody s_sizes_of) (t_sizes_of sp_part_of R) :=
    (dss_one (ds_ret (d_lc (own := [("player", 1)]) (di_rng1 (by rfl) b_range (d_callB c_len (by rfl) b_len bt_len (da_cons (dv 0) da_nil))) (by (show BlkOk N_sizes_of (defScope s_sizes_of) _ _); exact ⟨rfl, by decide +kernel, by decide +kernel, by decide +kernel, by decide +kernel⟩) (fun _ _ _ _ _ _ => (dx_name 1 (by simp) rfl (by first | exact Or.inl rfl | exact Or.inr rfl))) (fun _ _ _ _ _ _ => pif_no) (fun _ _ _ _ _ _ => (d_callB c_len (by rfl) b_len bt_len (da_cons (d_own G_part_of hk_part_of (da_cons (dv 0) (da_cons (dv 1) da_nil))) da_nil))))))
abbrev s_part_of : Stmt := top 23
abbrev N_part_of : List Str := ["field", "player", "other"]
theorem sc_part_of : FnScope N_part_of ["field", "player"] (defScope s_part_of) := ⟨rfl, rfl, rfl, by decide +kernel, rfl, by decide +kernel, by decide +kernel⟩
theorem w_part_of {k : Nat} {sp_way_up : DSp} {k_way_up : Nat} (G_way_up : Cal P w K mg base T k_way_up "way_up" 2 sp_way_up) (hk_way_up : k_way_up ≤ k) (b_len : mg "len" = none) (b_range : mg "range" = none) (f : Addr) (cdv : Value) (A : Around) (outer : List Env) (s : Shared) (H : Hp) (E : XK) (S0 : Sx) (W : WX) (R : Er → List Sl → Prop) :
    PSsd ⟨cxD P w K mg base N_part_of "part_of" s_part_of f cdv A outer s H E, T, S0, W, R, k⟩ (defBody s_part_of) (t_part_of sp_way_up R) :=
    (dss_one (ds_ret (d_lc (own := [("other", 2)]) (di_rng1 (by rfl) b_range (d_callB c_len (by rfl) b_len bt_len (da_cons (dv 0) da_nil))) (by (show BlkOk N_part_of (defScope s_part_of) _ _); exact ⟨rfl, by decide +kernel, by decide +kernel, by decide +kernel, by decide +kernel⟩) (fun _ _ _ _ _ _ => (dx_name 2 (by simp) rfl (by first | exact Or.inl rfl | exact Or.inr rfl))) (fun _ _ _ _ _ _ => (pif (d_tcmp o_in (dv 1) (d_own G_way_up hk_way_up (da_cons (dv 0) (da_cons (dv 2) da_nil)))))) (fun _ _ _ _ _ _ => (dv 2)))))
abbrev s_common : Stmt := top 25
abbrev N_common : List Str := ["one", "other"]
theorem sc_common : FnScope N_common ["one", "other"] (defScope s_common) := ⟨rfl, rfl, rfl, by decide +kernel, rfl, by decide +kernel, by decide +kernel⟩
theorem w_common {k : Nat} (f : Addr) (cdv : Value) (A : Around) (outer : List Env) (s : Shared) (H : Hp) (E : XK) (S0 : Sx) (W : WX) (R : Er → List Sl → Prop) :
    PSsd ⟨cxD P w K mg base N_common "common" s_common f cdv A outer s H E, T, S0, W, R, k⟩ (defBody s_common) (t_common R) :=
    (dss_cons (ds_while (d_tcmp o_ne (dv 1) d_int) (dss_one (ds_par 0 1 rfl rfl (by decide) rfl rfl (dv 1) (d_bin o_mod (dv 0) (dv 1)) (by rfl))))
      (dss_one (ds_ret (dv 0))))
abbrev s_reduced : Stmt := top 27
abbrev N_reduced : List Str := ["top", "bottom", "part"]
theorem sc_reduced : FnScope N_reduced ["top", "bottom"] (defScope s_reduced) := ⟨rfl, rfl, rfl, by decide +kernel, rfl, by decide +kernel, by decide +kernel⟩
theorem w_reduced {k : Nat} {sp_common : DSp} {k_common : Nat} (G_common : Cal P w K mg base T k_common "common" 2 sp_common) (hk_common : k_common ≤ k) (f : Addr) (cdv : Value) (A : Around) (outer : List Env) (s : Shared) (H : Hp) (E : XK) (S0 : Sx) (W : WX) (R : Er → List Sl → Prop) :
    PSsd ⟨cxD P w K mg base N_reduced "reduced" s_reduced f cdv A outer s H E, T, S0, W, R, k⟩ (defBody s_reduced) (t_reduced sp_common R) :=
    (dss_cons (ds_set 2 rfl (by first | exact Or.inl rfl | exact Or.inr rfl) (d_own G_common hk_common (da_cons (dv 0) (da_cons (dv 1) da_nil))))
      (dss_one (ds_ret (d_tup (da_cons (d_bin o_div (dv 0) (dv 2)) (da_cons (d_bin o_div (dv 1) (dv 2)) da_nil))))))
abbrev s_race_of : Stmt := top 28
abbrev N_race_of : List Str := ["one", "other", "below", "at", "rate", "row", "step", "more", "top", "bottom", "top2", "bottom2"]
theorem sc_race_of : FnScope N_race_of ["one", "other"] (defScope s_race_of) := ⟨rfl, rfl, rfl, by decide +kernel, rfl, by decide +kernel, by decide +kernel⟩
theorem w_race_of {k : Nat} {sp_reduced : DSp} {k_reduced : Nat} (G_reduced : Cal P w K mg base T k_reduced "reduced" 2 sp_reduced) (hk_reduced : k_reduced ≤ k) (b_enumerate : mg "enumerate" = none) (b_len : mg "len" = none) (b_range : mg "range" = none) (f : Addr) (cdv : Value) (A : Around) (outer : List Env) (s : Shared) (H : Hp) (E : XK) (S0 : Sx) (W : WX) (R : Er → List Sl → Prop) :
    PSsd ⟨cxD P w K mg base N_race_of "race_of" s_race_of f cdv A outer s H E, T, S0, W, R, k⟩ (defBody s_race_of) (t_race_of sp_reduced R) :=
    (dss_cons (ds_set 2 rfl (by first | exact Or.inl rfl | exact Or.inr rfl) (d_bin o_mul (d_lst (da_cons (d_tup (da_cons d_int (da_cons d_int da_nil))) da_nil)) (d_bin o_add (d_callB c_len (by rfl) b_len bt_len (da_cons (dv 1) da_nil)) d_int)))
      (dss_cons (ds_for (di_rng1 (by rfl) b_range (d_callB c_len (by rfl) b_len bt_len (da_cons (dv 0) da_nil))) (dg_name 3 rfl (by first | exact Or.inl rfl | exact Or.inr rfl)) (dss_cons (ds_set 4 rfl (by first | exact Or.inl rfl | exact Or.inr rfl) (d_ix (dv 0) (d_bin o_sub (d_neg d_int) (dv 3))))
      (dss_cons (ds_set 5 rfl (by first | exact Or.inl rfl | exact Or.inr rfl) (d_lst (da_cons (d_tup (da_cons d_int (da_cons d_int da_nil))) da_nil)))
      (dss_cons (ds_for (di_enum (by rfl) b_enumerate (d_rev (dv 1))) (dg_tup (dgs_cons (dg_name 6 rfl (by first | exact Or.inl rfl | exact Or.inr rfl)) (dgs_cons (dg_name 7 rfl (by first | exact Or.inl rfl | exact Or.inr rfl)) dgs_nil))) (dss_cons (ds_asg (d_ix (dv 2) (d_bin o_add (dv 6) d_int)) (dg_tup (dgs_cons (dg_name 8 rfl (by first | exact Or.inl rfl | exact Or.inr rfl)) (dgs_cons (dg_name 9 rfl (by first | exact Or.inl rfl | exact Or.inr rfl)) dgs_nil))))
      (dss_cons (ds_asg (d_ix (dv 5) (d_neg d_int)) (dg_tup (dgs_cons (dg_name 10 rfl (by first | exact Or.inl rfl | exact Or.inr rfl)) (dgs_cons (dg_name 11 rfl (by first | exact Or.inl rfl | exact Or.inr rfl)) dgs_nil))))
      (dss_one (ds_expr (d_app 5 rfl (by first | exact Or.inl rfl | exact Or.inr (Or.inl rfl) | exact Or.inr (Or.inr rfl)) (d_own G_reduced hk_reduced (da_cons (d_bin o_add (d_bin o_mul (d_bin o_mul (dv 4) (dv 8)) (dv 11)) (d_bin o_mul (d_bin o_mul (dv 7) (dv 10)) (dv 9))) (da_cons (d_bin o_mul (d_bin o_mul (d_bin o_add (dv 4) (dv 7)) (dv 9)) (dv 11)) da_nil)))))))))
      (dss_one (ds_set 2 rfl (by first | exact Or.inl rfl | exact Or.inr rfl) (dv 5)))))))
      (dss_one (ds_ret (d_ix (dv 2) (d_neg d_int))))))
abbrev s_share_ahead : Stmt := top 29
abbrev N_share_ahead : List Str := ["field", "first", "second", "sizes", "mine", "yours", "one", "other", "player"]
theorem sc_share_ahead : FnScope N_share_ahead ["field", "first", "second"] (defScope s_share_ahead) := ⟨rfl, rfl, rfl, by decide +kernel, rfl, by decide +kernel, by decide +kernel⟩
theorem w_share_ahead {k : Nat} {sp_race_of : DSp} {k_race_of : Nat} (G_race_of : Cal P w K mg base T k_race_of "race_of" 2 sp_race_of) (hk_race_of : k_race_of ≤ k) {sp_sizes_of : DSp} {k_sizes_of : Nat} (G_sizes_of : Cal P w K mg base T k_sizes_of "sizes_of" 1 sp_sizes_of) (hk_sizes_of : k_sizes_of ≤ k) {sp_way_up : DSp} {k_way_up : Nat} (G_way_up : Cal P w K mg base T k_way_up "way_up" 2 sp_way_up) (hk_way_up : k_way_up ≤ k) {sp_look_at_one : DSp} {k_look_at_one : Nat} (G_look_at_one : Cal P w K mg base T k_look_at_one "look_at_one" 2 sp_look_at_one) (hk_look_at_one : k_look_at_one ≤ k) {sp_look_at_field : DSp} {k_look_at_field : Nat} (G_look_at_field : Cal P w K mg base T k_look_at_field "look_at_field" 1 sp_look_at_field) (hk_look_at_field : k_look_at_field ≤ k) (b_int : mg "int" = none) (b_tuple : mg "tuple" = none) (f : Addr) (cdv : Value) (A : Around) (outer : List Env) (s : Shared) (H : Hp) (E : XK) (S0 : Sx) (W : WX) (R : Er → List Sl → Prop) :
    PSsd ⟨cxD P w K mg base N_share_ahead "share_ahead" s_share_ahead f cdv A outer s H E, T, S0, W, R, k⟩ (defBody s_share_ahead) (t_share_ahead sp_race_of sp_sizes_of sp_way_up sp_look_at_one sp_look_at_field R) :=
    (dss_cons (ds_expr (d_own G_look_at_field hk_look_at_field (da_cons (dv 0) da_nil)))
      (dss_cons (ds_expr (d_own G_look_at_one hk_look_at_one (da_cons (dv 0) (da_cons (dv 1) da_nil))))
      (dss_cons (ds_expr (d_own G_look_at_one hk_look_at_one (da_cons (dv 0) (da_cons (dv 2) da_nil))))
      (dss_cons (ds_asg (d_tup (da_cons (d_own G_way_up hk_way_up (da_cons (dv 0) (da_cons (dv 1) da_nil))) (da_cons (d_own G_way_up hk_way_up (da_cons (dv 0) (da_cons (dv 2) da_nil))) da_nil))) (dg_tup (dgs_cons (dg_name 6 rfl (by first | exact Or.inl rfl | exact Or.inr rfl)) (dgs_cons (dg_name 7 rfl (by first | exact Or.inl rfl | exact Or.inr rfl)) dgs_nil))))
      (dss_cons (ds_if (dw_t (dw_or (d_tcmp o_in (dv 1) (dv 7)) (dw_or1 (d_tcmp o_in (dv 2) (dv 6))))) (dss_one (ds_ret (d_tup (da_cons (d_callTy c_int (by rfl) b_int bt_int (da_cons (d_and (d_cmp o_in (dv 1) (dv 7)) (d_one (d_cmp o_ne (dv 1) (dv 2)))) da_nil)) (da_cons d_int da_nil))))) dss_nil)
      (dss_cons (ds_set 3 rfl (by first | exact Or.inl rfl | exact Or.inr rfl) (d_own G_sizes_of hk_sizes_of (da_cons (dv 0) da_nil)))
      (dss_cons (ds_setLc 4 (own := [("player", 8)]) rfl rfl (by rfl) (di_seq (dv 6)) (by (show BlkOk N_share_ahead (defScope s_share_ahead) _ _); exact ⟨rfl, by decide +kernel, by decide +kernel, by decide +kernel, by decide +kernel⟩) (fun _ _ _ _ _ _ => (dx_name 8 (by simp) rfl (by first | exact Or.inl rfl | exact Or.inr rfl))) (fun _ _ _ _ _ _ => (pif (d_tcmp o_notIn (dv 8) (dv 7)))) (fun _ _ _ _ _ _ => (d_ix (dv 3) (dv 8))))
      (dss_cons (ds_setLc 5 (own := [("player", 8)]) rfl rfl (by rfl) (di_seq (dv 7)) (by (show BlkOk N_share_ahead (defScope s_share_ahead) _ _); exact ⟨rfl, by decide +kernel, by decide +kernel, by decide +kernel, by decide +kernel⟩) (fun _ _ _ _ _ _ => (dx_name 8 (by simp) rfl (by first | exact Or.inl rfl | exact Or.inr rfl))) (fun _ _ _ _ _ _ => (pif (d_tcmp o_notIn (dv 8) (dv 6)))) (fun _ _ _ _ _ _ => (d_ix (dv 3) (dv 8))))
      (dss_one (ds_ret (d_own G_race_of hk_race_of (da_cons (d_callTy c_tuple (by rfl) b_tuple bt_tuple (da_cons (d_rev (dv 4)) da_nil)) (da_cons (d_callTy c_tuple (by rfl) b_tuple bt_tuple (da_cons (d_rev (dv 5)) da_nil)) da_nil)))))))))))))
abbrev s__law_well : Stmt := top 31
abbrev N__law_well : List Str := ["cell", "turn"]
theorem sc__law_well : FnScope N__law_well ["cell", "turn"] (defScope s__law_well) := ⟨rfl, rfl, rfl, by decide +kernel, rfl, by decide +kernel, by decide +kernel⟩
theorem w__law_well {k : Nat} (f : Addr) (cdv : Value) (A : Around) (outer : List Env) (s : Shared) (H : Hp) (E : XK) (S0 : Sx) (W : WX) (R : Er → List Sl → Prop) :
    PSsd ⟨cxD P w K mg base N__law_well "_law_well" s__law_well f cdv A outer s H E, T, S0, W, R, k⟩ (defBody s__law_well) (t__law_well R) :=
    (dss_cons (ds_if (d_tcmp o_ge (dv 0) (d_bin o_pow d_int d_int)) (dss_one (ds_ret (d_lst (da_cons (d_bin o_sub (dv 0) (d_bin o_pow d_int d_int)) (da_cons (d_bin o_mod (dv 0) d_int) (da_cons (dv 1) da_nil)))))) dss_nil)
      (dss_one (ds_ret (d_lst (da_cons d_int (da_cons (d_bin o_mod (dv 0) d_int) (da_cons (dv 1) da_nil)))))))
abbrev s__law_take : Stmt := top 32
abbrev N__law_take : List Str := ["bag", "many", "p", "n", "found"]
theorem sc__law_take : FnScope N__law_take ["bag", "many"] (defScope s__law_take) := ⟨rfl, rfl, rfl, by decide +kernel, rfl, by decide +kernel, by decide +kernel⟩
theorem w__law_take {k : Nat} (f : Addr) (cdv : Value) (A : Around) (outer : List Env) (s : Shared) (H : Hp) (E : XK) (S0 : Sx) (W : WX) (R : Er → List Sl → Prop) :
    PSsd ⟨cxD P w K mg base N__law_take "_law_take" s__law_take f cdv A outer s H E, T, S0, W, R, k⟩ (defBody s__law_take) (t__law_take R) :=
    (dss_bag 0 (dss_cons (ds_if (d_tcmp o_gt (d_ix (dv 0) d_int) d_int) (dss_cons (ds_set 4 rfl (by first | exact Or.inl rfl | exact Or.inr rfl) (d_bin o_mod (d_ix (dv 0) d_int) (dv 1)))
      (dss_cons (ds_sto 0 rfl (by first | exact Or.inl rfl | exact Or.inr (Or.inl rfl) | exact Or.inr (Or.inr rfl)) d_int (d_bin o_div (d_ix (dv 0) d_int) (dv 1)))
      (dss_one (ds_ret (dv 4))))) dss_nil)
      (dss_cons (ds_sto 0 rfl (by first | exact Or.inl rfl | exact Or.inr (Or.inl rfl) | exact Or.inr (Or.inr rfl)) d_int (d_bin o_add (d_ix (dv 0) d_int) d_int))
      (dss_cons (ds_set 2 rfl (by first | exact Or.inl rfl | exact Or.inr rfl) d_int)
      (dss_cons (ds_set 3 rfl (by first | exact Or.inl rfl | exact Or.inr rfl) (d_bin o_mod (d_bin o_add (d_ix (dv 0) d_int) (d_bin o_mul d_int (d_ix (dv 0) d_int))) (dv 2)))
      (dss_cons (ds_set 3 rfl (by first | exact Or.inl rfl | exact Or.inr rfl) (d_bin o_mod (d_bin o_add (d_bin o_add (d_bin o_mul (dv 3) (dv 3)) (d_bin o_mul d_int (d_bin o_pow (d_ix (dv 0) d_int) d_int))) d_int) (dv 2)))
      (dss_one (ds_ret (d_bin o_mod (d_bin o_div (d_bin o_mod (d_bin o_pow (dv 3) d_int) (dv 2)) d_int) (dv 1))))))))))
abbrev s__law_bags : Stmt := top 33
abbrev N__law_bags : List Str := ["script", "most", "k", "cell"]
theorem sc__law_bags : FnScope N__law_bags ["script", "most"] (defScope s__law_bags) := ⟨rfl, rfl, rfl, by decide +kernel, rfl, by decide +kernel, by decide +kernel⟩
theorem w__law_bags {k : Nat} {sp__law_well : DSp} {k__law_well : Nat} (G__law_well : Cal P w K mg base T k__law_well "_law_well" 2 sp__law_well) (hk__law_well : k__law_well ≤ k) (b_enumerate : mg "enumerate" = none) (f : Addr) (cdv : Value) (A : Around) (outer : List Env) (s : Shared) (H : Hp) (E : XK) (S0 : Sx) (W : WX) (R : Er → List Sl → Prop) :
    PSsd ⟨cxD P w K mg base N__law_bags "_law_bags" s__law_bags f cdv A outer s H E, T, S0, W, R, k⟩ (defBody s__law_bags) (t__law_bags sp__law_well R) :=
    (dss_one (ds_ret (d_lc (own := [("k", 2), ("cell", 3)]) (di_enum (by rfl) b_enumerate (d_bin o_add (d_slice (dv 0) do_none (do_some (dv 1))) (d_lst (da_cons d_int da_nil)))) (by (show BlkOk N__law_bags (defScope s__law_bags) _ _); exact ⟨rfl, by decide +kernel, by decide +kernel, by decide +kernel, by decide +kernel⟩) (fun _ _ _ _ _ _ => (dx_tup (dxs_cons (dx_name 2 (by simp) rfl (by first | exact Or.inl rfl | exact Or.inr rfl)) (dxs_cons (dx_name 3 (by simp) rfl (by first | exact Or.inl rfl | exact Or.inr rfl)) dxs_nil)))) (fun _ _ _ _ _ _ => pif_no) (fun _ _ _ _ _ _ => (d_own G__law_well hk__law_well (da_cons (dv 3) (da_cons (d_bin o_mul d_int (dv 2)) da_nil)))))))
abbrev s__law_same : Stmt := top 34
abbrev N__law_same : List Str := ["a", "b", "x", "y"]
theorem sc__law_same : FnScope N__law_same ["a", "b"] (defScope s__law_same) := ⟨rfl, rfl, rfl, by decide +kernel, rfl, by decide +kernel, by decide +kernel⟩
theorem w__law_same {k : Nat} {sp__law_same : DSp} {k__law_same : Nat} (G__law_same : Cal P w K mg base T k__law_same "_law_same" 2 sp__law_same) (hk__law_same : k__law_same ≤ k) (b_all : mg "all" = none) (b_bool : mg "bool" = none) (b_int : mg "int" = none) (b_isinstance : mg "isinstance" = none) (b_len : mg "len" = none) (b_list : mg "list" = none) (b_str : mg "str" = none) (b_tuple : mg "tuple" = none) (b_zip : mg "zip" = none) (f : Addr) (cdv : Value) (A : Around) (outer : List Env) (s : Shared) (H : Hp) (E : XK) (S0 : Sx) (W : WX) (R : Er → List Sl → Prop) :
    PSsd ⟨cxD P w K mg base N__law_same "_law_same" s__law_same f cdv A outer s H E, T, S0, W, R, k⟩ (defBody s__law_same) (t__law_same sp__law_same R) :=
    (dss_cons (ds_if (dw_t (dw_or (dw_t (dw_and (d_tst (d_isi .tLst (by rfl) b_isinstance (by rfl) b_list bt_list (dv 0))) (dw_and1 (d_tst (d_isi .tLst (by rfl) b_isinstance (by rfl) b_list bt_list (dv 1)))))) (dw_or1 (dw_t (dw_and (d_tst (d_isi .tTup (by rfl) b_isinstance (by rfl) b_tuple bt_tuple (dv 0))) (dw_and1 (d_tst (d_isi .tTup (by rfl) b_isinstance (by rfl) b_tuple bt_tuple (dv 1))))))))) (dss_one (ds_ret (d_and (d_cmp o_eq (d_callB c_len (by rfl) b_len bt_len (da_cons (dv 0) da_nil)) (d_callB c_len (by rfl) b_len bt_len (da_cons (dv 1) da_nil))) (d_one (d_callB c_all (by rfl) b_all bt_all (da_cons (d_lc (own := [("x", 2), ("y", 3)]) (di_zip (by rfl) b_zip (dv 0) (dv 1)) (by (show BlkOk N__law_same (defScope s__law_same) _ _); exact ⟨rfl, by decide +kernel, by decide +kernel, by decide +kernel, by decide +kernel⟩) (fun _ _ _ _ _ _ => (dx_tup (dxs_cons (dx_name 2 (by simp) rfl (by first | exact Or.inl rfl | exact Or.inr rfl)) (dxs_cons (dx_name 3 (by simp) rfl (by first | exact Or.inl rfl | exact Or.inr rfl)) dxs_nil)))) (fun _ _ _ _ _ _ => pif_no) (fun _ _ _ _ _ _ => (d_own G__law_same hk__law_same (da_cons (dv 2) (da_cons (dv 3) da_nil))))) da_nil)))))) dss_nil)
      (dss_cons (ds_if (dw_t (dw_or (d_tst (d_isiT [.tBool, .tLst, .tTup] (by rfl) b_isinstance (pa_ty1 .tBool (by rfl) b_bool bt_bool (pa_ty1 .tLst (by rfl) b_list bt_list (pa_ty1 .tTup (by rfl) b_tuple bt_tuple pa_ty0))) (dv 0))) (dw_or1 (d_tst (d_isiT [.tBool, .tLst, .tTup] (by rfl) b_isinstance (pa_ty1 .tBool (by rfl) b_bool bt_bool (pa_ty1 .tLst (by rfl) b_list bt_list (pa_ty1 .tTup (by rfl) b_tuple bt_tuple pa_ty0))) (dv 1)))))) (dss_one (ds_ret (d_and (d_isi .tBool (by rfl) b_isinstance (by rfl) b_bool bt_bool (dv 0)) (d_and (d_isi .tBool (by rfl) b_isinstance (by rfl) b_bool bt_bool (dv 1)) (d_one (d_cmp o_eq (dv 0) (dv 1))))))) dss_nil)
      (dss_cons (ds_if (dw_t (dw_or (d_tst (d_isi .tInt (by rfl) b_isinstance (by rfl) b_int bt_int (dv 0))) (dw_or1 (d_tst (d_isi .tInt (by rfl) b_isinstance (by rfl) b_int bt_int (dv 1)))))) (dss_one (ds_ret (d_and (d_isi .tInt (by rfl) b_isinstance (by rfl) b_int bt_int (dv 0)) (d_and (d_isi .tInt (by rfl) b_isinstance (by rfl) b_int bt_int (dv 1)) (d_one (d_cmp o_eq (dv 0) (dv 1))))))) dss_nil)
      (dss_cons (ds_if (dw_t (dw_or (d_tst (d_isi .tStr (by rfl) b_isinstance (by rfl) b_str bt_str (dv 0))) (dw_or1 (d_tst (d_isi .tStr (by rfl) b_isinstance (by rfl) b_str bt_str (dv 1)))))) (dss_one (ds_ret (d_and (d_isi .tStr (by rfl) b_isinstance (by rfl) b_str bt_str (dv 0)) (d_and (d_isi .tStr (by rfl) b_isinstance (by rfl) b_str bt_str (dv 1)) (d_one (d_cmp o_eq (dv 0) (dv 1))))))) dss_nil)
      (dss_one (ds_ret (d_and (d_cmp o_isN (dv 0) d_non) (d_one (d_cmp o_isN (dv 1) d_non)))))))))
abbrev s__law_field : Stmt := top 35
abbrev N__law_field : List Str := ["bag", "most", "order", "player", "found", "k", "many", "way", "near", "at"]
theorem sc__law_field : FnScope N__law_field ["bag", "most"] (defScope s__law_field) := ⟨rfl, rfl, rfl, by decide +kernel, rfl, by decide +kernel, by decide +kernel⟩
theorem w__law_field {k : Nat} {sp__law_take : DSp} {k__law_take : Nat} (G__law_take : Cal P w K mg base T k__law_take "_law_take" 2 sp__law_take) (hk__law_take : k__law_take ≤ k) (b_len : mg "len" = none) (b_max : mg "max" = none) (b_range : mg "range" = none) (b_tuple : mg "tuple" = none) (f : Addr) (cdv : Value) (A : Around) (outer : List Env) (s : Shared) (H : Hp) (E : XK) (S0 : Sx) (W : WX) (R : Er → List Sl → Prop) :
    PSsd ⟨cxD P w K mg base N__law_field "_law_field" s__law_field f cdv A outer s H E, T, S0, W, R, k⟩ (defBody s__law_field) (t__law_field sp__law_take R) :=
    (dss_cons (ds_par 6 7 rfl rfl (by decide) rfl rfl (d_bin o_add d_int (d_ownR G__law_take hk__law_take (da_cons (dv 0) (da_cons (dv 1) da_nil)))) (d_ownR G__law_take hk__law_take (da_cons (dv 0) (da_cons d_int da_nil))) (by rfl))
      (dss_cons (ds_set 2 rfl (by first | exact Or.inl rfl | exact Or.inr rfl) (d_lst da_nil))
      (dss_cons (ds_for (di_rng1 (by rfl) b_range (dv 6)) (dg_name 3 rfl (by first | exact Or.inl rfl | exact Or.inr rfl)) (dss_one (ds_expr (d_met 2 lm_ins PySem.F.slot_list_insert PySem.F.type_list_insert mt_insert rfl (by first | exact Or.inl rfl | exact Or.inr (Or.inl rfl) | exact Or.inr (Or.inr rfl)) (da_cons (d_ownR G__law_take hk__law_take (da_cons (dv 0) (da_cons (d_bin o_add (d_callB c_len (by rfl) b_len bt_len (da_cons (dv 2) da_nil)) d_int) da_nil))) (da_cons (dv 3) da_nil))))))
      (dss_cons (ds_set 4 rfl (by first | exact Or.inl rfl | exact Or.inr rfl) (d_bin o_mul (d_lst (da_cons d_non da_nil)) (dv 6)))
      (dss_cons (ds_for (di_rng2 (by rfl) b_range d_int (dv 6)) (dg_name 5 rfl (by first | exact Or.inl rfl | exact Or.inr rfl)) (dss_cons (ds_set 8 rfl (by first | exact Or.inl rfl | exact Or.inr rfl) (d_lst (da_cons (d_bin o_sub (dv 5) d_int) (da_cons d_int (da_cons (d_callB c_max2 (by rfl) b_max bt_max (da_cons d_int (da_cons (d_bin o_sub (d_bin o_sub (dv 5) d_int) (d_ownR G__law_take hk__law_take (da_cons (dv 0) (da_cons d_int da_nil)))) da_nil))) (da_cons (d_bin o_div (d_bin o_sub (dv 5) d_int) d_int) da_nil))))))
      (dss_cons (ds_set 9 rfl (by first | exact Or.inl rfl | exact Or.inr rfl) (d_ix (d_bin o_add (dv 8) (d_lst (da_cons (d_ownR G__law_take hk__law_take (da_cons (dv 0) (da_cons (dv 5) da_nil))) (da_cons (d_ownR G__law_take hk__law_take (da_cons (dv 0) (da_cons (dv 5) da_nil))) da_nil)))) (dv 7)))
      (dss_one (ds_if (dw_t (dw_or (d_tcmp o_lt (dv 7) d_int) (dw_or1 (d_tcmp o_gt (d_ownR G__law_take hk__law_take (da_cons (dv 0) (da_cons (d_ix (d_lst (da_cons d_int (da_cons d_int (da_cons d_int (da_cons d_int (da_cons d_int (da_cons d_int da_nil))))))) (dv 7)) da_nil))) d_int)))) (dss_one (ds_sto 4 rfl (by first | exact Or.inl rfl | exact Or.inr (Or.inl rfl) | exact Or.inr (Or.inr rfl)) (d_ix (dv 2) (dv 5)) (d_ix (dv 2) (dv 9)))) dss_nil)))))
      (dss_one (ds_ret (d_callTy c_tuple (by rfl) b_tuple bt_tuple (da_cons (dv 4) da_nil)))))))))
abbrev s__law_orders : Stmt := top 36
abbrev N__law_orders : List Str := ["field", "found", "turn", "longer", "row", "player", "top"]
theorem sc__law_orders : FnScope N__law_orders ["field"] (defScope s__law_orders) := ⟨rfl, rfl, rfl, by decide +kernel, rfl, by decide +kernel, by decide +kernel⟩
theorem w__law_orders {k : Nat} (b_enumerate : mg "enumerate" = none) (f : Addr) (cdv : Value) (A : Around) (outer : List Env) (s : Shared) (H : Hp) (E : XK) (S0 : Sx) (W : WX) (R : Er → List Sl → Prop) :
    PSsd ⟨cxD P w K mg base N__law_orders "_law_orders" s__law_orders f cdv A outer s H E, T, S0, W, R, k⟩ (defBody s__law_orders) (t__law_orders_2 R) :=
    (dss_cons (ds_set 1 rfl (by first | exact Or.inl rfl | exact Or.inr rfl) (d_lst (da_cons (d_tupX da_nil) da_nil)))
      (dss_cons (ds_for (di_seq (dv 0)) (dg_name 2 rfl (by first | exact Or.inl rfl | exact Or.inr rfl)) (dss_cons (ds_set 3 rfl (by first | exact Or.inl rfl | exact Or.inr rfl) (d_lst da_nil))
      (dss_cons (ds_for (di_seq (dv 1)) (dg_name 4 rfl (by first | exact Or.inl rfl | exact Or.inr rfl)) (dss_one (ds_for (di_enum (by rfl) b_enumerate (dv 0)) (dg_tup (dgs_cons (dg_name 5 rfl (by first | exact Or.inl rfl | exact Or.inr rfl)) (dgs_cons (dg_name 6 rfl (by first | exact Or.inl rfl | exact Or.inr rfl)) dgs_nil))) (dss_one (ds_if (dw_t (dw_and (d_tcmp o_notIn (dv 5) (d_wk (dv 4))) (dw_and1 (dw_t (dw_or (d_tcmp o_isN (dv 6) d_non) (dw_or1 (d_tcmp o_in (dv 6) (d_wk (dv 4))))))))) (dss_one (ds_expr (d_app 3 rfl (by first | exact Or.inl rfl | exact Or.inr (Or.inl rfl) | exact Or.inr (Or.inr rfl)) (d_bin o_addX (dv 4) (d_tupX (da_cons (dv 5) da_nil)))))) dss_nil)))))
      (dss_one (ds_set 1 rfl (by first | exact Or.inl rfl | exact Or.inr rfl) (dv 3))))))
      (dss_one (ds_ret (dv 1)))))
abbrev s__law_reduced : Stmt := top 37
abbrev N__law_reduced : List Str := ["top", "bottom", "one", "other"]
theorem sc__law_reduced : FnScope N__law_reduced ["top", "bottom"] (defScope s__law_reduced) := ⟨rfl, rfl, rfl, by decide +kernel, rfl, by decide +kernel, by decide +kernel⟩
theorem w__law_reduced {k : Nat} (f : Addr) (cdv : Value) (A : Around) (outer : List Env) (s : Shared) (H : Hp) (E : XK) (S0 : Sx) (W : WX) (R : Er → List Sl → Prop) :
    PSsd ⟨cxD P w K mg base N__law_reduced "_law_reduced" s__law_reduced f cdv A outer s H E, T, S0, W, R, k⟩ (defBody s__law_reduced) (t__law_reduced R) :=
    (dss_cons (ds_par 2 3 rfl rfl (by decide) rfl rfl (dv 0) (dv 1) (by rfl))
      (dss_cons (ds_while (d_tcmp o_ne (dv 3) d_int) (dss_one (ds_par 2 3 rfl rfl (by decide) rfl rfl (dv 3) (d_bin o_mod (dv 2) (dv 3)) (by rfl))))
      (dss_one (ds_ret (d_tup (da_cons (d_bin o_div (dv 0) (dv 2)) (da_cons (d_bin o_div (dv 1) (dv 2)) da_nil)))))))
abbrev s__law_kind : Stmt := top 38
abbrev N__law_kind : List Str := ["e", "some", "words", "word", "good"]
theorem sc__law_kind : FnScope N__law_kind ["e"] (defScope s__law_kind) := ⟨rfl, rfl, rfl, by decide +kernel, rfl, by decide +kernel, by decide +kernel⟩
abbrev s__law_tried : Stmt := top 39
abbrev N__law_tried : List Str := ["call", "found", "e"]
theorem sc__law_tried : FnScope N__law_tried ["call"] (defScope s__law_tried) := ⟨rfl, rfl, rfl, by decide +kernel, rfl, by decide +kernel, by decide +kernel⟩
theorem kind_fn {CX : CXT} {k : Nat} {f : Addr} {fd : FuncData} (F : Fun K "_law_kind" "_law_kind" s__law_kind f fd) : FnK P w K mg base CX (k + 1) f fd "e" (spKind K mg) := by
  refine fnK_of F sc__law_kind fun cdv A outer s H Q p cls d hot hz hr hsp => ?_
  obtain ⟨Da, bs, rfl, rfl, kf, hq⟩ := hsp
  obtain ⟨c, hi, hzp, hl, ⟨a0, m0, b0⟩, ⟨a1, m1, b1⟩, ⟨a2, m2, b2⟩, ⟨a3, m3, b3⟩, ⟨a4, m4, b4⟩, ⟨a5, m5, b5⟩, ⟨a6, m6, b6⟩, ⟨a7, m7, b7⟩, ⟨a8, m8, b8⟩, ⟨a9, m9, b9⟩⟩ := kf
  match bs, hl with
  | [c0, c1, c2, c3, c4, c5, c6, c7, c8, c9], _ =>
  have hf : ∃ vs, p.2.data = .fields vs := let ⟨_, vs, h, _⟩ := hot; ⟨vs, h⟩
  have hp : p ∈ (L2H.cxH CX P w K mg base N__law_kind "_law_kind" (defScope s__law_kind) f cdv A outer s H (fun _ _ _ => False) p).pn := List.mem_cons_self
  have hotC : L2H.HotC (L2H.cxH CX P w K mg base N__law_kind "_law_kind" (defScope s__law_kind) f cdv A outer s H (fun _ _ _ => False) p) := ⟨p, hot, hp⟩
  refine ⟨_, pss_cons (ps_set (i := 1) sc__law_kind.nd rfl (.inl rfl) (pe_lst (pa_cons (pe_isK c hp hz hf hi m0 b0) (pa_cons (pe_isK c hp hz hf hi m1 b1) (pa_cons (pe_isK c hp hz hf hi m2 b2) (pa_cons (pe_isK c hp hz hf hi m3 b3) pa_nil))))))
    (pss_cons (ps_set (i := 1) sc__law_kind.nd rfl (.inl rfl) (pe_op op_cat (pe_var (i := 1) rfl (.inl rfl)) (pe_lst (pa_cons (pe_isK c hp hz hf hi m4 b4) (pa_cons (pe_isK c hp hz hf hi m5 b5) (pa_cons (pe_isK c hp hz hf hi m6 b6) pa_nil))))))
    (pss_cons (ps_set (i := 1) sc__law_kind.nd rfl (.inl rfl) (pe_op op_cat (pe_var (i := 1) rfl (.inl rfl)) (pe_lst (pa_cons (pe_isK c hp hz hf hi m7 b7) pa_nil))))
    (pss_cons (ps_set (i := 2) sc__law_kind.nd rfl (.inl rfl) (pe_lst (pa_cons pe_str (pa_cons pe_str (pa_cons pe_str (pa_cons pe_str (pa_cons pe_str (pa_cons pe_str (pa_cons pe_str (pa_cons pe_str pa_nil))))))))))
    (pss_cons (ps_set (i := 1) sc__law_kind.nd rfl (.inl rfl) (pe_op op_cat (pe_var (i := 1) rfl (.inl rfl)) (pe_lst (pa_cons (pe_isK c hp hz hf hi m8 b8) (pa_cons (pe_isK c hp hz hf hi m9 b9) pa_nil)))))
    (pss_one (ps_ret (pe_join pe_str (pe_lcQ (own := [("word", 3), ("good", 4)]) (g := gTup K 2 (gCons (gName 3) (gCons (gName 4) gNil))) (tt := tB (tVar 4)) (te := tVar 3) hotC sc__law_kind.nd (pi_zipQ rfl hzp (pa_cons (pe_op op_cat (pe_var (i := 2) rfl (.inl rfl)) (pe_lst (pa_cons pe_str (pa_cons pe_str pa_nil)))) (pa_cons (pe_var (i := 1) rfl (.inl rfl)) pa_nil)))
      (blkOk_by (by rfl)) (fun s H Ca cl fp => pg_tupQ (hotB hotC) (pgs_cons (pg_name sc__law_kind.nd rfl (.inl rfl) (.inr rfl)) (pgs_cons (pg_name sc__law_kind.nd rfl (.inl rfl) (.inr rfl)) pgs_nil)))
      (fun s H Ca cl fp => pts_one (pt_val (pe_var (i := 4) rfl (.inl rfl)))) (fun s H Ca cl fp => pe_var (i := 3) rfl (.inl rfl)))))))))), ?_⟩
  refine ⟨rfl, rfl, rfl, rfl, szK rfl, fun l1 n1 => ?_⟩
  refine ⟨_, rfl, rfl, rfl, rfl, szK rfl, fun l2 n2 => ⟨l1, l2, _, _, rfl, rfl, Ext.new n2 _ _ upd_same, upd_same, szK rfl, fun l3 n3 => ?_⟩⟩
  refine ⟨_, rfl, rfl, szK rfl, fun l4 n4 => ⟨l3, l4, _, _, rfl, rfl, Ext.new n4 _ _ upd_same, upd_same, szK rfl, fun l5 n5 => ?_⟩⟩
  refine ⟨szK rfl, fun l6 n6 => ?_⟩
  refine ⟨_, rfl, rfl, rfl, szK rfl, fun l7 n7 => ⟨l5, l7, _, _, rfl, rfl, Ext.new n7 _ _ (Ext.new n6 _ _ upd_same), upd_same, szK rfl, fun l8 n8 => ?_⟩⟩
  have x8 : Ext H _ := (((((((Ext.new n1).trans (Ext.new n2)).trans (Ext.new n3)).trans (Ext.new n4)).trans (Ext.new n5)).trans (Ext.new n6)).trans (Ext.new n7)).trans (Ext.new (o := .lst ([c0, c1, c2, c3, c4, c5, c6, c7, c8, c9].map V.bl)) n8)
  refine ⟨⟨_, rfl⟩, lc_kind (ws := kindWords) (bs := [c0, c1, c2, c3, c4, c5, c6, c7, c8, c9]) rfl (by decide) (by show 4 < 5; decide) (fun R hR => ?_) fun Dd H2 x2 hd => ⟨_, Dd, _, rfl, rfl, .inl (SqL.of hd), ?_, hq H2 (x8.trans x2)⟩⟩
  · refine ⟨_, rfl, szK rfl, fun l9 n9 => ⟨l6, l9, _, _, rfl, rfl, Ext.new n9 _ _ (Ext.new n8 _ _ (Ext.new n7 _ _ upd_same)), upd_same, szK rfl, fun l10 n10 => ⟨_, rfl, ?_⟩⟩⟩
    exact hR l10 l8 _ ((Ext.new n9).trans (Ext.new n10)) (SqL.of upd_same) (SqL.of (Ext.new n10 _ _ (Ext.new n9 _ _ upd_same)))
  · have h1 := pick_sum kindWords [c0, c1, c2, c3, c4, c5, c6, c7, c8, c9]
    have h2 : (kindWords.map (·.length)).sum ≤ 1000 := by decide
    show _ + _ * 0 ≤ _
    omega
theorem tried_gives {X : Cx} {g fk : Addr} {cdg : Value} {q : Str} {k j : Nat} {fd : FuncData} {aT aN aC : Addr} (hT : X.mg "TooMany" = some (.ref aT)) (hN : X.mg "NoText" = some (.ref aN)) (hC : X.mg "CupError" = some (.ref aC))
    (F : FnK X.prog X.w X.K X.mg X.base C8.CX0 j fk fd "e" (spKind X.K X.mg)) (hj : j ≤ k) (hm : X.mg "_law_kind" = some (.ref fk)) (hkp : PySem.W.keepIn X.K (.ref fk) = true) (hb : Binds X.K fd ["e"] []) :
    GivesN X N__law_tried "_law_tried" (defScope s__law_tried) g cdg (defBody s__law_tried) "call" q k (TTried X.K X.mg) := by
  intro f c' s H Q tl hr act hc h
  let Z : Cx := (cxOf C8.CX0 X.prog X.w X.K X.mg X.base N__law_tried "_law_tried" (defScope s__law_tried) g cdg X.A X.stack s H C8.E0).nox
  have tk0 : L2N.Takes Z (fun _ _ _ _ => False) := fun _ _ x => by
    obtain ⟨_, _, _, _, _, _, _, _, _, _, _, _, _, _, _, _, z⟩ := x
    exact z.elim
  refine ⟨_, pss_cons (ps_set (i := 1) sc__law_tried.nd rfl (.inl rfl) (pe_tup (pa_cons pe_str pa_nil)))
    (pss_cons (ps_try_manyA (X := Z) (i := 2) (n := "e") (l := [(.ref aT, fun _ _ _ _ _ _ => False), (.ref aN, fun _ _ _ _ _ _ => False), (.ref aC, fun a cls d => tAsg (tTup (tCons (tKind 2 a cls d (spKind X.K X.mg)) tNil)) (gName 1))])
      (tb := fun W D σ H => ∃ E : XK, (∀ cls d σ' H', E cls d H' → σ'.length = 3 → W cls d σ' H') ∧ σ[0]? = some (some (.ref f)) ∧ H c' = some (CodeO c' q) ∧ tl E H fun v H' => [V.str "told", v].length ≤ sizeLine ∧ ∀ p, H' p = none → D.nx (σ.set 1 (some (.ref p))) (upd H' p (.tup [.str "told", v])))
      rfl rfl sc__law_tried.nd rfl rfl tk0 (fun W pn xe tk po => ?_) (.cons ⟨rfl, by decide, .inl hT⟩ (fun _ _ _ _ _ _ _ => pss_no) (.cons ⟨rfl, by decide, .inl hN⟩ (fun _ _ _ _ _ _ _ => pss_no) (.cons ⟨rfl, by decide, .inl hC⟩ (fun a oe cls d pn hz hf => ?_) .nil))))
    (pss_one (ps_ret (pe_var (i := 1) rfl (.inl rfl))))), ?_⟩
  · refine ⟨fun pins s' σ H' D I h' => ?_⟩
    obtain ⟨E, hW, h1, h2, h3⟩ := h'
    have hp := fun p1 p2 => act _ pn xe E p1 p2 (takes_len tk) (fun cls d σ' H' e l => hW cls d σ' H' e l)
    exact (pss_one (ps_set (i := 1) sc__law_tried.nd rfl (.inl rfl) (pe_tup (pa_cons pe_str (pa_cons (hp _ _) pa_nil))))).run pins s' σ H' D I ⟨h1, h2, h3⟩
  · exact pss_one (ps_set (i := 1) sc__law_tried.nd rfl (.inl rfl) (pe_tup (pa_cons (pe_kind (X := Z.suite a ((a, oe) :: pn)) F (⟨((L2H.roomH_of hr).mono hj).dp, ((L2H.roomH_of hr).mono hj).un⟩) (hotC_suite hz hf) List.mem_cons_self hz.zc rfl hm hkp hb (fun σ pins H s e s' I z => (show False from z)) (i := 2) (v := "e") rfl (.inl rfl)) pa_nil)))
  · refine ⟨szK rfl, fun p0 n0 => ?_⟩
    refine ⟨EErr X.K X.mg Q, fun cls d σ' H' he hl => ?_, rfl, Ext.new n0 _ _ hc, h _ (Ext.new n0)⟩
    obtain ⟨Da, _, rfl, ⟨bs, ⟨⟨a1, m1, x1⟩, ⟨a2, m2, x2⟩, ⟨a3, m3, x3⟩, kf⟩, rfl⟩, rfl, hq⟩ := he
    rw [hT] at m1; cases m1
    rw [hN] at m2; cases m2
    rw [hC] at m3; cases m3
    refine ⟨false, x1, (fun z => by cases z), fun _ => ⟨false, x2, (fun z => by cases z), fun _ => ⟨true, x3, fun _ a na => ?_, fun z => by cases z⟩⟩⟩
    refine ⟨List.getElem?_set_self (by omega), Da, bs, rfl, rfl, kf, fun H2 xx => ⟨szK rfl, fun p np => ⟨.ref p, ?_, hq H2 p xx np⟩⟩⟩
    rw [List.getElem?_set_ne (by decide)]
    exact List.getElem?_set_self (by rw [List.length_set]; omega)
theorem tried_at {k : Nat} {aT aN aC : Addr} (hT : mg "TooMany" = some (.ref aT)) (hN : mg "NoText" = some (.ref aN)) (hC : mg "CupError" = some (.ref aC)) (F_t : FnF K mg "_law_tried" s__law_tried ["call"]) (F_k : FnF K mg "_law_kind" s__law_kind ["e"]) : TriedAt P w K mg base k := by
  obtain ⟨g, fd, h1, h2, h3⟩ := F_t.ex
  obtain ⟨fk, fdk, k1, k2, k3⟩ := F_k.ex
  have kp := h2.kp
  obtain ⟨oc, od, kV, doc, pm, an, cdv, ct, osl, rfl, lk, hcd⟩ := h2.ex
  refine ⟨⟨g, _, _, _, .none, kV, doc, pm, cdv, ct, oc, an, od, osl, N__law_tried, h1, kp, lk, hcd, h3, sc__law_tried, rfl, .inl rfl, fun X e1 e2 e3 e4 e5 q => ?_⟩⟩
  subst e1 e2 e3 e4 e5
  exact tried_gives hT hN hC (kind_fn (k := 0) k2) (by omega) k1 k2.kp k3
abbrev s_law : Stmt := top 40
abbrev N_law : List Str := ["script", "bag", "field", "every", "one", "odd", "other", "many", "order"]
theorem sc_law : FnScope N_law ["script"] (defScope s_law) := ⟨rfl, rfl, rfl, by decide +kernel, rfl, by decide +kernel, by decide +kernel⟩
def t_law_loop (K : PySem.W.Frag) (mg : Str → Option Value) (sp_share_ahead : DSp) (sp__law_reduced : DSp) (sp__law_same : DSp) (sp__law_orders : DSp) (sp__law_field : DSp) (R : Er → List Sl → Prop) : TSd :=
    (rSeq (rSet 2 (rCallB R sp__law_field (rCons (rVar 1) (rCons (rC (.int 6)) rNil))))
      (rSeq (rSet 3 (rFz (rCall R sp__law_orders (rCons (rVar 2) rNil))))
      (rSeq (rFor (iRng (rCons (rCB lenD (rCons (rVar 2) rNil)) rNil)) (gNm 4) (rFor (iRng (rCons (rCB lenD (rCons (rVar 2) rNil)) rNil)) (gNm 6) (rSeq (rSet 7 (rCB lenD (rCons (rLc [8] (iSeq (rVar 3)) (gNm 8) (rTst (rBin ltD (rTIx (rVar 8) (rCons (rVar 4) rNil)) (rTIx (rVar 8) (rCons (rVar 6) rNil)))) (rC (.int 1))) rNil)))
      (rIfS (rNotT (rTst (rCall R sp__law_same (rCons (rCall R sp_share_ahead (rCons (rVar 2) (rCons (rVar 4) (rCons (rVar 6) rNil)))) (rCons (rCall R sp__law_reduced (rCons (rVar 7) (rCons (rCB lenD (rCons (rVar 3) rNil)) rNil))) rNil))))) (rRet (rC (.bl false))) rNext))))
      (rFor (iSeq (rLst (rCons (rNeg (rC (.int 1))) (rCons (rCB lenD (rCons (rVar 2) rNil)) (rCons (rC .non) (rCons (rC (.bl true)) (rCons (rC (.str "0")) rNil))))))) (gNm 5) (rSeq (rIfS (rTst (rBin (eqD true) (rTried K mg fun R => (rCall R sp_share_ahead (rCons (rVar 2) (rCons (rVar 5) (rCons (rC (.int 0)) rNil))))) (rTup (rCons (rC (.str "NoPlayer")) rNil)))) (rRet (rC (.bl false))) rNext)
      (rIfS (rTst (rBin (eqD true) (rTried K mg fun R => (rCall R sp_share_ahead (rCons (rVar 2) (rCons (rC (.int 0)) (rCons (rVar 5) rNil))))) (rTup (rCons (rC (.str "NoPlayer")) rNil)))) (rRet (rC (.bl false))) rNext))))))
theorem w_law_loop {k : Nat} {kT : Nat} (Tr : TriedAt P w K mg base kT) (hTr : kT + 2 ≤ k) {cdA Pt : Addr} (B : TabB base mg cdA Pt) {sp_share_ahead : DSp} {k_share_ahead : Nat} (G_share_ahead : Cal P w K mg base [(Pt, ("law.<locals>." : Str) ++ "<lambda>")] k_share_ahead "share_ahead" 3 sp_share_ahead) (hk_share_ahead : k_share_ahead ≤ k) (hl_share_ahead : k_share_ahead ≤ kT) {sp__law_reduced : DSp} {k__law_reduced : Nat} (G__law_reduced : Cal P w K mg base [(Pt, ("law.<locals>." : Str) ++ "<lambda>")] k__law_reduced "_law_reduced" 2 sp__law_reduced) (hk__law_reduced : k__law_reduced ≤ k) {sp__law_same : DSp} {k__law_same : Nat} (G__law_same : Cal P w K mg base [(Pt, ("law.<locals>." : Str) ++ "<lambda>")] k__law_same "_law_same" 2 sp__law_same) (hk__law_same : k__law_same ≤ k) {sp__law_orders : DSp} {k__law_orders : Nat} (G__law_orders : Cal P w K mg base [(Pt, ("law.<locals>." : Str) ++ "<lambda>")] k__law_orders "_law_orders" 1 sp__law_orders) (hk__law_orders : k__law_orders ≤ k) {sp__law_field : DSp} {k__law_field : Nat} (G__law_field : Cal P w K mg base [(Pt, ("law.<locals>." : Str) ++ "<lambda>")] k__law_field "_law_field" 2 sp__law_field) (hk__law_field : k__law_field ≤ k) (b_len : mg "len" = none) (b_range : mg "range" = none) (f : Addr) (A : Around) (outer : List Env) (s : Shared) (H : Hp) (E : XK) (S0 : Sx) (W : WX) (R : Er → List Sl → Prop) :
    PSsd ⟨cxD P w K mg base N_law "law" s_law f (.ref cdA) A outer s H E, [(Pt, ("law.<locals>." : Str) ++ "<lambda>")], S0, W, R, k⟩ (forBody ((defBody s_law).getD 0 (.Pass ⟨0, 0, 0, 0⟩))) (t_law_loop K mg sp_share_ahead sp__law_reduced sp__law_same sp__law_orders sp__law_field R) :=
    (dss_cons (ds_set 2 rfl (by first | exact Or.inl rfl | exact Or.inr rfl) (d_ownR G__law_field hk__law_field (da_cons (dv 1) (da_cons d_int da_nil))))
      (dss_cons (ds_set 3 rfl (by first | exact Or.inl rfl | exact Or.inr rfl) (d_fz (d_own G__law_orders hk__law_orders (da_cons (dv 2) da_nil))))
      (dss_cons (ds_for (di_rng1 (by rfl) b_range (d_callB c_len (by rfl) b_len bt_len (da_cons (dv 2) da_nil))) (dg_name 4 rfl (by first | exact Or.inl rfl | exact Or.inr rfl)) (dss_one (ds_for (di_rng1 (by rfl) b_range (d_callB c_len (by rfl) b_len bt_len (da_cons (dv 2) da_nil))) (dg_name 6 rfl (by first | exact Or.inl rfl | exact Or.inr rfl)) (dss_cons (ds_set 7 rfl (by first | exact Or.inl rfl | exact Or.inr rfl) (d_callB c_len (by rfl) b_len bt_len (da_cons (d_lc (own := [("order", 8)]) (di_seq (dv 3)) (by (show BlkOk N_law (defScope s_law) _ _); exact ⟨rfl, by decide +kernel, by decide +kernel, by decide +kernel, by decide +kernel⟩) (fun _ _ _ _ _ _ => (dx_name 8 (by simp) rfl (by first | exact Or.inl rfl | exact Or.inr rfl))) (fun _ _ _ _ _ _ => (pif (d_tcmp o_lt (d_tidx (dv 8) (da_cons (dv 4) da_nil)) (d_tidx (dv 8) (da_cons (dv 6) da_nil))))) (fun _ _ _ _ _ _ => d_int)) da_nil)))
      (dss_one (ds_if (d_notT (d_tst (d_own G__law_same hk__law_same (da_cons (d_own G_share_ahead hk_share_ahead (da_cons (dv 2) (da_cons (dv 4) (da_cons (dv 6) da_nil)))) (da_cons (d_own G__law_reduced hk__law_reduced (da_cons (dv 7) (da_cons (d_callB c_len (by rfl) b_len bt_len (da_cons (dv 3) da_nil)) da_nil))) da_nil))))) (dss_one (ds_ret d_bl)) dss_nil))))))
      (dss_one (ds_for (di_seq (d_lst (da_cons (d_neg d_int) (da_cons (d_callB c_len (by rfl) b_len bt_len (da_cons (dv 2) da_nil)) (da_cons d_non (da_cons d_bl (da_cons d_str da_nil))))))) (dg_name 5 rfl (by first | exact Or.inl rfl | exact Or.inr rfl)) (dss_cons (ds_if (d_tcmp o_ne (d_tried Tr hTr B rfl List.mem_cons_self (fun p hp _ => by rcases List.mem_singleton.mp hp with rfl; rfl) (lamS_by (by show lamSB (defScope s_law) _ = true; decide +kernel)) fun _ _ _ _ _ _ _ _ _ _ => (d_own G_share_ahead hl_share_ahead (da_cons (dv 2) (da_cons (dv 5) (da_cons d_int da_nil))))) (d_tup (da_cons d_str da_nil))) (dss_one (ds_ret d_bl)) dss_nil)
      (dss_one (ds_if (d_tcmp o_ne (d_tried Tr hTr B rfl List.mem_cons_self (fun p hp _ => by rcases List.mem_singleton.mp hp with rfl; rfl) (lamS_by (by show lamSB (defScope s_law) _ = true; decide +kernel)) fun _ _ _ _ _ _ _ _ _ _ => (d_own G_share_ahead hl_share_ahead (da_cons (dv 2) (da_cons d_int (da_cons (dv 5) da_nil))))) (d_tup (da_cons d_str da_nil))) (dss_one (ds_ret d_bl)) dss_nil))))))))
def t_law_rest (K : PySem.W.Frag) (mg : Str → Option Value) (sp_share_ahead : DSp) (R : Er → List Sl → Prop) : TSd :=
    (rSeq (rIfS (rTst (rBin (eqD true) (rTried K mg fun R => (rCall R sp_share_ahead (rCons (rTup (rCons (rC (.int 0)) rNil)) (rCons (rC .non) (rCons (rC .non) rNil))))) (rTup (rCons (rC (.str "NoField")) rNil)))) (rRet (rC (.bl false))) rNext)
      (rRet (rAnd (rBin (eqD false) (rCall R sp_share_ahead (rCons (rTup (rCons (rC .non) (rCons (rC (.int 0)) (rCons (rC (.int 0)) (rCons (rC (.int 1)) rNil))))) (rCons (rC (.int 3)) (rCons (rC (.int 2)) rNil)))) (rTup (rCons (rC (.int 1)) (rCons (rC (.int 3)) rNil)))) (rBin (eqD false) (rCall R sp_share_ahead (rCons (rTup (rCons (rC .non) (rCons (rC (.int 0)) rNil))) (rCons (rC (.int 0)) (rCons (rC (.int 1)) rNil)))) (rTup (rCons (rC (.int 1)) (rCons (rC (.int 1)) rNil)))))))
theorem w_law_rest {k : Nat} {kT : Nat} (Tr : TriedAt P w K mg base kT) (hTr : kT + 2 ≤ k) {cdA Pt : Addr} (B : TabB base mg cdA Pt) {sp_share_ahead : DSp} {k_share_ahead : Nat} (G_share_ahead : Cal P w K mg base [(Pt, ("law.<locals>." : Str) ++ "<lambda>")] k_share_ahead "share_ahead" 3 sp_share_ahead) (hk_share_ahead : k_share_ahead ≤ k) (hl_share_ahead : k_share_ahead ≤ kT) (f : Addr) (A : Around) (outer : List Env) (s : Shared) (H : Hp) (E : XK) (S0 : Sx) (W : WX) (R : Er → List Sl → Prop) :
    PSsd ⟨cxD P w K mg base N_law "law" s_law f (.ref cdA) A outer s H E, [(Pt, ("law.<locals>." : Str) ++ "<lambda>")], S0, W, R, k⟩ ((defBody s_law).drop 1) (t_law_rest K mg sp_share_ahead R) :=
    (dss_cons (ds_if (d_tcmp o_ne (d_tried Tr hTr B rfl List.mem_cons_self (fun p hp _ => by rcases List.mem_singleton.mp hp with rfl; rfl) (lamS_by (by show lamSB (defScope s_law) _ = true; decide +kernel)) fun _ _ _ _ _ _ _ _ _ _ => (d_own G_share_ahead hl_share_ahead (da_cons (d_tup (da_cons d_int da_nil)) (da_cons d_non (da_cons d_non da_nil))))) (d_tup (da_cons d_str da_nil))) (dss_one (ds_ret d_bl)) dss_nil)
      (dss_one (ds_ret (d_and (d_cmp o_eq (d_own G_share_ahead hk_share_ahead (da_cons (d_tup (da_cons d_non (da_cons d_int (da_cons d_int (da_cons d_int da_nil))))) (da_cons d_int (da_cons d_int da_nil)))) (d_tup (da_cons d_int (da_cons d_int da_nil)))) (d_one (d_cmp o_eq (d_own G_share_ahead hk_share_ahead (da_cons (d_tup (da_cons d_non (da_cons d_int da_nil))) (da_cons d_int (da_cons d_int da_nil)))) (d_tup (da_cons d_int (da_cons d_int da_nil)))))))))
end
end K12
/-! fields, races: plain mathematics -/
namespace DL
open PySem L2
def optD : Option Nat → D
  | none => .non
  | some k => .int k
def fieldD (f : List (Option Nat)) : D := .tup (f.map optD)
def natsD (l : List Nat) : List D := l.map fun (n : Nat) => D.int (n : Int)
def frD (p : Nat × Nat) : D := .tup [.int p.1, .int p.2]
/-- within n steps up an unbeaten one -/
def comesN (f : List (Option Nat)) : Nat → Nat → Bool
  | 0, _ => false
  | n + 1, i => match f[i]? with
    | some none => true
    | some (some p) => comesN f n p
    | none => false
def wayN (f : List (Option Nat)) : Nat → Nat → List Nat
  | 0, i => [i]
  | n + 1, i => match f[i]? with
    | some (some p) => i :: wayN f n p
    | _ => [i]
def wayF (f : List (Option Nat)) (i : Nat) : List Nat := wayN f f.length i
def partF (f : List (Option Nat)) (p : Nat) : List Nat := (List.range f.length).filter fun o => (wayF f o).contains p
def sizesF (f : List (Option Nat)) : List Nat := (List.range f.length).map fun p => (partF f p).length
structure FieldOk (f : List (Option Nat)) : Prop where
  lo : 1 ≤ f.length
  hi : f.length ≤ 60
  lt : ∀ (i p : Nat), f[i]? = some (some p) → p < f.length
  up : ∀ i, i < f.length → comesN f f.length i = true
/-- what the code asks of a field's items -/
def decO (n : Nat) : D → Option (Option Nat)
  | .non => some none
  | .int i => if 0 ≤ i ∧ i ≤ (n : Int) - 1 then some (some i.toNat) else none
  | _ => none
def decF (n : Nat) : List D → Option (List (Option Nat))
  | [] => some []
  | d :: ds => match decO n d, decF n ds with
    | some a, some r => some (a :: r)
    | _, _ => none
def isFieldD : D → Bool
  | .tup xs => decide (1 ≤ xs.length ∧ xs.length ≤ 60) && match decF xs.length xs with
    | some f => (List.range f.length).all fun i => comesN f f.length i
    | none => false
  | .tux _ _ => true
  | _ => false
/-- no tuple whose object is known -/
def nt : D → Bool
  | .tux _ _ => false
  | _ => true
theorem nt_of {d : D} (h : isFieldD d = false) : nt d = true := by
  cases d <;> first | rfl | cases h
theorem decO_opt {n : Nat} {o : Option Nat} (h : ∀ p, o = some p → p < n) : decO n (optD o) = some o := by
  cases o with
  | none => rfl
  | some p =>
    have := h p rfl
    show (if (0 : Int) ≤ (p : Int) ∧ (p : Int) ≤ (n : Int) - 1 then some (some (p : Int).toNat) else none) = _
    rw [if_pos (by omega)]
    simp
theorem decF_map {n : Nat} : ∀ {f : List (Option Nat)}, (∀ (i p : Nat), f[i]? = some (some p) → p < n) → decF n (f.map optD) = some f
  | [], _ => rfl
  | o :: f, h => by
    rw [List.map_cons]
    unfold decF
    rw [decO_opt fun p e => h 0 p (by simpa using e), decF_map fun i p e => h (i + 1) p (by simpa using e)]
theorem FieldOk.is {f : List (Option Nat)} (h : FieldOk f) : isFieldD (fieldD f) = true := by
  unfold fieldD isFieldD
  simp only [List.length_map, Bool.and_eq_true, decide_eq_true_eq]
  refine ⟨⟨h.lo, h.hi⟩, ?_⟩
  rw [decF_map h.lt]
  simpa using h.up
theorem comesN_mono {f : List (Option Nat)} : ∀ {n m i : Nat}, n ≤ m → comesN f n i = true → comesN f m i = true
  | 0, _, _, _, h => by cases h
  | n + 1, 0, _, l, _ => absurd l (by omega)
  | n + 1, m + 1, i, l, h => by
    unfold comesN at h ⊢
    cases e : f[i]? with
    | none => rw [e] at h; cases h
    | some o =>
      cases o with
      | none => rfl
      | some p =>
        rw [e] at h
        exact comesN_mono (by omega) h
theorem comesN_lt {f : List (Option Nat)} {n i : Nat} (h : comesN f n i = true) : i < f.length := by
  cases n with
  | zero => cases h
  | succ n =>
    unfold comesN at h
    cases e : f[i]? with
    | none => rw [e] at h; cases h
    | some o => exact (List.getElem?_eq_some_iff.mp e).1
theorem wayN_eq {f : List (Option Nat)} : ∀ {n m k i : Nat}, comesN f n i = true → n ≤ m + 1 → n ≤ k + 1 → wayN f m i = wayN f k i
  | 0, _, _, _, h, _, _ => by cases h
  | n + 1, m, k, i, h, l1, l2 => by
    unfold comesN at h
    cases e : f[i]? with
    | none => rw [e] at h; cases h
    | some o =>
      rw [e] at h
      cases o with
      | none => cases m <;> cases k <;> simp [wayN, e]
      | some p =>
        have h : comesN f n p = true := h
        cases n with
        | zero => cases h
        | succ n =>
          cases m with
          | zero => omega
          | succ m =>
            cases k with
            | zero => omega
            | succ k =>
              simp only [wayN, e]
              exact congrArg (i :: ·) (wayN_eq (m := m) (k := k) h (by omega) (by omega))
theorem wayF_eq {f : List (Option Nat)} {n m i : Nat} (h : comesN f n i = true) (l1 : n ≤ m + 1) (l2 : n ≤ f.length + 1) : wayN f m i = wayF f i := wayN_eq h l1 l2
theorem wayF_none {f : List (Option Nat)} {i : Nat} (e : f[i]? = some none) : wayF f i = [i] := by
  unfold wayF
  cases f.length with
  | zero => rfl
  | succ n => simp [wayN, e]
theorem wayF_some {f : List (Option Nat)} (h : FieldOk f) {i p : Nat} (e : f[i]? = some (some p)) : wayF f i = i :: wayF f p := by
  have hp := h.up p (h.lt i p e)
  have l := h.lo
  have hi := h.up i (List.getElem?_eq_some_iff.mp e).1
  unfold wayF
  cases hn : f.length with
  | zero => omega
  | succ n =>
    rw [hn] at hp hi
    have hc : comesN f n p = true := by
      unfold comesN at hi
      rw [e] at hi
      exact hi
    have q : wayN f (n + 1) i = i :: wayN f n p := by rw [wayN, e]
    rw [q, wayN_eq hc (m := n) (k := n + 1) (by omega) (by omega)]
theorem wayN_lt {f : List (Option Nat)} (h : ∀ (i p : Nat), f[i]? = some (some p) → p < f.length) : ∀ {n i : Nat}, i < f.length → ∀ j ∈ wayN f n i, j < f.length
  | 0, i, hi, j, hj => by simp [wayN] at hj; omega
  | n + 1, i, hi, j, hj => by
    unfold wayN at hj
    cases e : f[i]? with
    | none => rw [e] at hj; simp at hj; omega
    | some o =>
      rw [e] at hj
      cases o with
      | none => simp at hj; omega
      | some p =>
        simp only [List.mem_cons] at hj
        rcases hj with rfl | hj
        · exact hi
        · exact wayN_lt h (h i p e) j hj
theorem wayN_length {f : List (Option Nat)} : ∀ {n i : Nat}, (wayN f n i).length ≤ n + 1
  | 0, i => by simp [wayN]
  | n + 1, i => by
    unfold wayN
    split
    · simp only [List.length_cons]
      rename_i p _
      have := wayN_length (f := f) (n := n) (i := p)
      omega
    · simp
end DL
namespace KB
open PySem PySem.Spec PyProof.Rows L2 DL
section
variable {P : Program} {w : World} {K : PySem.W.Frag} {mg : Str → Option Value} {base : Heap}
def wholeD : D → Bool
  | .int _ => true
  | _ => false
def sp_is_whole : DSp := fun as Rr => ∃ d, as = [.sh d] ∧ ∀ post, Rr (.val (.bl (wholeD d))) post
theorem law_is_whole (as : List Sl) (Rr : Res → List Sl → Prop) (h : sp_is_whole as Rr) : t_is_whole (fun er ρ => Rr (.er er) (outs as ρ)) (bodyEd as Rr) (as ++ List.replicate 0 .no) := by
  obtain ⟨d, rfl, k⟩ := h
  cases d <;> first | exact ⟨fun _ => k _, fun z => (by cases z)⟩ | exact ⟨fun z => (by cases z), fun _ => k _⟩
def withinD : D → Int → Int → Bool
  | .int i, l, h => decide (l ≤ i ∧ i ≤ h)
  | _, _, _ => false
def sp_is_within : DSp := fun as Rr => ∃ d l h, as = [.sh d, .sh (.int l), .sh (.int h)] ∧ ∀ post, Rr (.val (.bl (withinD d l h))) post
theorem law_is_within (as : List Sl) (Rr : Res → List Sl → Prop) (h : sp_is_within as Rr) : t_is_within sp_is_whole (fun er ρ => Rr (.er er) (outs as ρ)) (bodyEd as Rr) (as ++ List.replicate 0 .no) := by
  obtain ⟨d, lo, hi, rfl, k⟩ := h
  refine ⟨d, rfl, fun post => ?_⟩
  cases d with
  | int i => exact ⟨fun _ => ⟨fun h1 => kb k (by simp [withinD, of_decide_eq_true h1]), fun h1 => kb k (by simp [withinD, of_decide_eq_false h1])⟩, fun z => (by cases z)⟩
  | _ => exact ⟨fun z => (by cases z), fun _ => k _⟩
def sp_comes_up : DSp := fun as Rr => ∃ (f : List (Option Nat)) (i : Nat), as = [.sh (fieldD f), .sh (.int i)] ∧ f.length ≤ 1000 ∧ (∀ (i p : Nat), f[i]? = some (some p) → p < f.length) ∧ i < f.length ∧ ∀ post, Rr (.val (.bl (comesN f f.length i))) post
theorem field_at {f : List (Option Nat)} {i : Nat} {o : Option Nat} (h : f[i]? = some o) : atI (f.map optD) (i : Int) = some (optD o) := atI_nat (by rw [List.getElem?_map, h]; rfl)
theorem comes_none {f : List (Option Nat)} {n j : Nat} (h : f[j]? = some none) : comesN f (n + 1) j = true := by simp [comesN, h]
theorem comes_some {f : List (Option Nat)} {n j p : Nat} (h : f[j]? = some (some p)) : comesN f (n + 1) j = comesN f n p := by simp [comesN, h]
theorem law_comes_up (as : List Sl) (Rr : Res → List Sl → Prop) (h : sp_comes_up as Rr) : t_comes_up (fun er ρ => Rr (.er er) (outs as ρ)) (bodyEd as Rr) (as ++ List.replicate 1 .no) := by
  obtain ⟨f, i, rfl, hl, hlt, hi, k⟩ := h
  have hm : (f.map optD).length = f.length := List.length_map _
  have hm2 : (((f.map optD).length : Nat) : Int).toNat = f.length := by rw [hm]; omega
  refine ⟨⟨by rw [hm]; omega, by rw [hm]; omega⟩, fun t ρ => ∃ (j : Nat) (s : Sl), ρ = [.sh (fieldD f), .sh (.int j), s] ∧ j < f.length ∧ t ≤ f.length ∧ comesN f f.length i = comesN f (f.length - t) j, ⟨i, .no, rfl, hi, Nat.zero_le _, rfl⟩, ?_, ?_⟩
  · rintro t d ρ ht rfl ⟨j, s, rfl, hj, htl, hc⟩
    have ht : t < f.length := by
      have : t < (((f.map optD).length : Nat) : Int).toNat := ht
      omega
    have hj' : f[j]? = some f[j] := List.getElem?_eq_getElem hj
    obtain ⟨n, hn⟩ : ∃ n, f.length - t = n + 1 := ⟨f.length - t - 1, by omega⟩
    rw [hn] at hc
    refine ⟨_, field_at hj', ?_⟩
    cases hv : f[j] with
    | none =>
      rw [hv] at hj'
      exact ⟨fun _ => kb k (hc.trans (comes_none hj')), fun z => (by cases z)⟩
    | some p =>
      rw [hv] at hj'
      refine ⟨fun z => (by cases z), fun _ => ⟨_, field_at hj', p, _, rfl, hlt j p hj', ht, ?_⟩⟩
      rw [hc, comes_some hj', show f.length - (t + 1) = n by omega]
  · rintro ρ ⟨j, s, rfl, hj, htl, hc⟩
    have hc : comesN f f.length i = comesN f (f.length - (((f.map optD).length : Nat) : Int).toNat) j := hc
    rw [hm2, Nat.sub_self] at hc
    exact kb k hc
/-! ### is_field, the looks -/
def sp_is_field : DSp := fun as Rr => ∃ d, as = [.sh d] ∧ nt d = true ∧ ∀ post, Rr (.val (.bl (isFieldD d))) post
theorem itemOk {n : Nat} {d : D} : (match d with | .non => true | d => withinD d 0 ((n : Int) - 1)) = (decO n d).isSome := by
  cases d with
  | int i =>
    show decide (0 ≤ i ∧ i ≤ (n : Int) - 1) = (if 0 ≤ i ∧ i ≤ (n : Int) - 1 then some (some i.toNat) else none).isSome
    by_cases h : 0 ≤ i ∧ i ≤ (n : Int) - 1
    · rw [if_pos h, decide_eq_true h]; rfl
    · rw [if_neg h, decide_eq_false h]; rfl
  | _ => rfl
theorem decF_some {n : Nat} : ∀ {xs : List D}, (∀ d ∈ xs, (decO n d).isSome = true) → ∃ f, decF n xs = some f ∧ xs = f.map optD ∧ ∀ (i p : Nat), f[i]? = some (some p) → p < n
  | [], _ => ⟨[], rfl, rfl, fun i p h => by simp at h⟩
  | d :: xs, h => by
    obtain ⟨f, e1, e2, e3⟩ := decF_some (n := n) (xs := xs) fun d hd => h d (List.mem_cons_of_mem _ hd)
    have hd := h d List.mem_cons_self
    obtain ⟨o, ho⟩ := Option.isSome_iff_exists.mp hd
    have key : d = optD o ∧ ∀ p, o = some p → p < n := by
      cases d with
      | non => cases ho; exact ⟨rfl, fun p z => by cases z⟩
      | int i =>
        have ho : (if 0 ≤ i ∧ i ≤ (n : Int) - 1 then some (some i.toNat) else none) = some o := ho
        by_cases hi : 0 ≤ i ∧ i ≤ (n : Int) - 1
        · rw [if_pos hi] at ho
          cases ho
          refine ⟨?_, fun p z => ?_⟩
          · show D.int i = .int ((i.toNat : Nat) : Int)
            rw [Int.toNat_of_nonneg hi.1]
          · cases z; omega
        · rw [if_neg hi] at ho; cases ho
      | _ => cases ho
    refine ⟨o :: f, ?_, ?_, ?_⟩
    · unfold decF; rw [ho, e1]
    · rw [List.map_cons, ← e2, key.1]
    · intro i p hi
      cases i with
      | zero => exact key.2 p (by simpa using hi)
      | succ i => exact e3 i p (by simpa using hi)
theorem decF_none {n : Nat} : ∀ {xs : List D}, ¬ (∀ d ∈ xs, (decO n d).isSome = true) → decF n xs = none
  | [], h => absurd (fun d hd => by simp at hd) h
  | d :: xs, h => by
    unfold decF
    by_cases hd : (decO n d).isSome = true
    · rw [decF_none (xs := xs) fun z => h fun d' hd' => (List.mem_cons.mp hd').elim (fun e => e ▸ hd) (z d')]
      cases decO n d <;> rfl
    · cases e : decO n d with
      | none => rfl
      | some o => rw [e] at hd; exact absurd rfl hd
theorem isFieldD_tup (xs : List D) : isFieldD (.tup xs) = (decide (1 ≤ xs.length ∧ xs.length ≤ 60) && match decF xs.length xs with
    | some f => (List.range f.length).all fun i => comesN f f.length i
    | none => false) := rfl
theorem law_is_field (as : List Sl) (Rr : Res → List Sl → Prop) (h : sp_is_field as Rr) : t_is_field sp_comes_up sp_is_within (fun er ρ => Rr (.er er) (outs as ρ)) (bodyEd as Rr) (as ++ List.replicate 2 .no) := by
  obtain ⟨d, rfl, hnt, k⟩ := h
  cases d with
  | tux b xs => cases hnt
  | tup xs =>
    refine ⟨fun z => (by cases z), fun _ => ⟨fun h1 => ⟨fun h2 => ?_, fun h2 => ?_⟩, fun h1 => ⟨fun _ => ?_, fun z => (by cases z)⟩⟩⟩
    · have h2 : ¬ ((xs.length : Int) ≤ 60) := by simpa using h2
      exact kb k (by rw [isFieldD_tup, decide_eq_false (by omega)]; rfl)
    · have h1 : (1 : Int) ≤ xs.length := of_decide_eq_true h1
      have h2 : ((xs.length : Int) ≤ 60) := by simpa using h2
      refine ⟨fun i acc ρ' => acc = (xs.take i).map (fun d => D.bl (decO xs.length d).isSome) ∧ ρ' = [.sh (.tup xs), .no, .no], ⟨rfl, rfl⟩, ?_, ?_⟩
      · rintro i d acc ρ' hi hd ⟨rfl, rfl⟩
        have hd : xs[i]? = some d := hd
        have hi : i < xs.length := hi
        have hl : ((xs.take i).map fun d => D.bl (decO xs.length d).isSome).length < 16777216 := by
          rw [List.length_map, List.length_take]; omega
        refine ⟨fun _ => ?_, fun z => (by cases z)⟩
        cases d with
        | non => exact ⟨fun _ => ⟨hl, take_snoc hd, rfl⟩, fun z => (by cases z)⟩
        | _ => exact ⟨fun z => (by cases z), fun _ => ⟨trivial, _, _, _, rfl, fun post => ⟨hl, by rw [← take_snoc hd, ← itemOk], rfl⟩⟩⟩
      · rintro acc ρ' ⟨rfl, rfl⟩
        refine ⟨xs.map fun d => (decO xs.length d).isSome, ?_, fun h3 => ?_, fun h3 => ?_⟩
        · show [D.lst ((xs.take xs.length).map _)] = _
          rw [take_all', List.map_map]
          rfl
        · have h3 : ¬ (∀ d ∈ xs, (decO xs.length d).isSome = true) := by
            simpa [List.all_map] using h3
          exact kb k (by rw [isFieldD_tup, decF_none h3]; simp)
        · have h3 : ∀ d ∈ xs, (decO xs.length d).isSome = true := by
            simpa [List.all_map] using h3
          obtain ⟨f, e1, e2, e3⟩ := decF_some h3
          have el : xs.length = f.length := by rw [e2, List.length_map]
          refine ⟨⟨by omega, by omega⟩, fun i acc ρ' => acc = (List.range i).map (fun i => D.bl (comesN f f.length i)) ∧ ρ' = [.sh (.tup xs), .no, .no], ⟨rfl, rfl⟩, ?_, ?_⟩
          · rintro i d acc ρ' hi rfl ⟨rfl, rfl⟩
            have hi : i < ((xs.length : Nat) : Int).toNat := hi
            refine ⟨fun _ => ⟨f, i, ?_, by omega, fun j p hj => by rw [← el]; exact e3 j p hj, by omega, fun post => ⟨?_, ?_, rfl⟩⟩, fun z => (by cases z)⟩
            · show [Sl.sh (.tup xs), .sh (.int (0 + (i : Int)))] = _
              rw [e2, Int.zero_add]; rfl
            · rw [List.length_map, List.length_range]; omega
            · rw [List.range_succ, List.map_append]; rfl
          · rintro acc ρ' ⟨rfl, rfl⟩
            refine ⟨(List.range f.length).map fun i => comesN f f.length i, ?_, ?_⟩
            · show [D.lst ((List.range ((xs.length : Nat) : Int).toNat).map _)] = _
              rw [el, Int.toNat_natCast, List.map_map]; rfl
            · refine kb k ?_
              rw [isFieldD_tup, e1, decide_eq_true (by omega), List.all_map]
              rfl
    · have h1 : ¬ ((1 : Int) ≤ xs.length) := of_decide_eq_false h1
      exact kb k (by rw [isFieldD_tup, decide_eq_false (by omega)]; rfl)
  | _ => exact ⟨fun _ => ⟨fun _ => k _, fun z => (by cases z)⟩, fun z => (by cases z)⟩
def sp_look_at_field (a : Addr) : DSp := fun as Rr => ∃ d, as = [.sh d] ∧ nt d = true ∧ (isFieldD d = true → ∀ post, Rr (.val .non) post) ∧ (isFieldD d = false → ∀ post, Rr (.er ⟨a, []⟩) post)
theorem law_look_at_field {a : Addr} (as : List Sl) (Rr : Res → List Sl → Prop) (h : sp_look_at_field a as Rr) : t_look_at_field a sp_is_field (fun er ρ => Rr (.er er) (outs as ρ)) (bodyEd as Rr) (as ++ List.replicate 0 .no) := by
  obtain ⟨d, rfl, hnt, k1, k2⟩ := h
  refine ⟨d, rfl, hnt, fun post => ⟨fun h => k2 (by simpa using h) _, fun h => k1 (by simpa using h) _⟩⟩
def sp_look_at_one (a : Addr) : DSp := fun as Rr => ∃ xs d, as = [.sh (.tup xs), .sh d] ∧ (withinD d 0 ((xs.length : Int) - 1) = true → ∀ post, Rr (.val .non) post) ∧ (withinD d 0 ((xs.length : Int) - 1) = false → ∀ post, Rr (.er ⟨a, []⟩) post)
theorem law_look_at_one {a : Addr} (as : List Sl) (Rr : Res → List Sl → Prop) (h : sp_look_at_one a as Rr) : t_look_at_one a sp_is_within (fun er ρ => Rr (.er er) (outs as ρ)) (bodyEd as Rr) (as ++ List.replicate 0 .no) := by
  obtain ⟨xs, d, rfl, k1, k2⟩ := h
  refine ⟨trivial, d, _, _, rfl, fun post => ⟨fun h => k2 (by simpa using h) _, fun h => k1 (by simpa using h) _⟩⟩
/-! ### ways up, parts, sizes -/
/-- within n steps -/
def sp_way_up (n : Nat) : DSp := fun as Rr => ∃ (f : List (Option Nat)) (i : Nat), as = [.sh (fieldD f), .sh (.int i)] ∧ FieldOk f ∧ comesN f n i = true ∧ ∀ post, Rr (.new (natsD (wayF f i))) post
theorem law_way_up0 (as : List Sl) (Rr : Res → List Sl → Prop) (h : sp_way_up 0 as Rr) (t : TSd) (ρ : List Sl) (E : Ed) : t E ρ := by
  obtain ⟨f, i, rfl, ok, hc, _⟩ := h
  cases hc
theorem natsD_len (l : List Nat) : (natsD l).length = l.length := List.length_map _
theorem law_way_up {n : Nat} (as : List Sl) (Rr : Res → List Sl → Prop) (h : sp_way_up (n + 1) as Rr) : t_way_up (sp_way_up n) (fun er ρ => Rr (.er er) (outs as ρ)) (bodyEd as Rr) (as ++ List.replicate 1 .no) := by
  obtain ⟨f, i, rfl, ok, hc, k⟩ := h
  have hi := comesN_lt hc
  have hf : f[i]? = some f[i] := List.getElem?_eq_getElem hi
  refine ⟨_, field_at hf, ?_⟩
  cases hv : f[i] with
  | none =>
    rw [hv] at hf
    exact ⟨fun _ => kn k (by rw [wayF_none hf]; rfl), fun z => (by cases z)⟩
  | some p =>
    rw [hv] at hf
    rw [comes_some hf] at hc
    refine ⟨fun z => (by cases z), fun _ => ⟨f, p, rfl, ok, hc, fun post => ⟨?_, kn k (by rw [wayF_some ok hf]; rfl)⟩⟩⟩
    show 1 + (natsD (wayF f p)).length ≤ 16777216
    rw [natsD_len]
    have := wayN_length (f := f) (n := f.length) (i := p)
    have := ok.hi
    unfold wayF
    omega
def sp_wayA : DSp := fun as Rr => ∃ (f : List (Option Nat)) (i : Nat), as = [.sh (fieldD f), .sh (.int i)] ∧ FieldOk f ∧ i < f.length ∧ ∀ post, Rr (.new (natsD (wayF f i))) post
theorem wayA_of (as : List Sl) (Rr : Res → List Sl → Prop) (h : sp_wayA as Rr) : sp_way_up 60 as Rr := by
  obtain ⟨f, i, rfl, ok, hi, k⟩ := h
  exact ⟨f, i, rfl, ok, comesN_mono ok.hi (ok.up i hi), k⟩
def sp_part_of : DSp := fun as Rr => ∃ (f : List (Option Nat)) (i : Nat), as = [.sh (fieldD f), .sh (.int i)] ∧ FieldOk f ∧ ∀ post, Rr (.new (natsD (partF f i))) post
theorem eqv_any (l : List Nat) (i : Nat) : ((natsD l).any fun y => PyData.eqv y.py (D.int (i : Int)).py) = l.contains i := by
  unfold natsD
  rw [List.any_map]
  induction l with
  | nil => rfl
  | cons a l ih =>
    rw [List.any_cons, ih, List.contains_cons]
    congr 1
    simp [D.py, PyData.eqv]
    rw [Bool.eq_iff_iff]
    simp
    omega
theorem flat_nats (l : List Nat) : (natsD l).all flatD = true := by
  unfold natsD
  rw [List.all_map]
  simp [flatD, Function.comp_def]
theorem law_part_of (as : List Sl) (Rr : Res → List Sl → Prop) (h : sp_part_of as Rr) : t_part_of sp_wayA (fun er ρ => Rr (.er er) (outs as ρ)) (bodyEd as Rr) (as ++ List.replicate 1 .no) := by
  obtain ⟨f, i, rfl, ok, k⟩ := h
  have hm : (f.map optD).length = f.length := List.length_map _
  have hm2 : (((f.map optD).length : Nat) : Int).toNat = f.length := by rw [hm]; omega
  have hl := ok.hi
  refine ⟨⟨by rw [hm]; omega, by rw [hm]; omega⟩, fun t acc ρ' => acc = natsD ((List.range t).filter fun o => (wayF f o).contains i) ∧ ρ' = [.sh (fieldD f), .sh (.int i), .no], ⟨rfl, rfl⟩, ?_, ?_⟩
  · rintro t d acc ρ' ht rfl ⟨rfl, rfl⟩
    have ht : t < (((f.map optD).length : Nat) : Int).toNat := ht
    have e0 : (0 : Int) + (t : Int) = (t : Int) := by omega
    have hfl : ((List.range t).filter fun o => (wayF f o).contains i).length ≤ t := by
      have := List.length_filter_le (fun o => (wayF f o).contains i) (List.range t)
      rwa [List.length_range] at this
    refine ⟨f, t, by show [Sl.sh (fieldD f), .sh (.int (0 + (t : Int)))] = _; rw [e0], ok, by omega, fun post => ⟨⟨rfl, flat_nats _⟩, fun h => ?_, fun h => ?_⟩⟩
    · refine ⟨by rw [natsD_len]; omega, ?_, rfl⟩
      have h : ((natsD (wayF f t)).any fun y => PyData.eqv y.py (D.int (i : Int)).py) = true := h
      rw [eqv_any] at h
      rw [List.range_succ, List.filter_append]
      simp only [List.filter_cons, h, if_true, List.filter_nil]
      unfold natsD
      rw [List.map_append, e0]
      rfl
    · refine ⟨?_, rfl⟩
      have h : ((natsD (wayF f t)).any fun y => PyData.eqv y.py (D.int (i : Int)).py) = false := h
      rw [eqv_any] at h
      rw [List.range_succ, List.filter_append]
      simp only [List.filter_cons, h, Bool.false_eq_true, if_false, List.filter_nil, List.append_nil]
  · rintro acc ρ' ⟨rfl, rfl⟩
    refine kn k ?_
    show natsD _ = natsD ((List.range (((f.map optD).length : Nat) : Int).toNat).filter _)
    rw [hm2]
    rfl
def sp_sizes_of : DSp := fun as Rr => ∃ (f : List (Option Nat)), as = [.sh (fieldD f)] ∧ FieldOk f ∧ ∀ post, Rr (.new (natsD (sizesF f))) post
theorem law_sizes_of (as : List Sl) (Rr : Res → List Sl → Prop) (h : sp_sizes_of as Rr) : t_sizes_of sp_part_of (fun er ρ => Rr (.er er) (outs as ρ)) (bodyEd as Rr) (as ++ List.replicate 1 .no) := by
  obtain ⟨f, rfl, ok, k⟩ := h
  have hm : (f.map optD).length = f.length := List.length_map _
  have hm2 : (((f.map optD).length : Nat) : Int).toNat = f.length := by rw [hm]; omega
  have hl := ok.hi
  refine ⟨⟨by rw [hm]; omega, by rw [hm]; omega⟩, fun t acc ρ' => acc = natsD ((List.range t).map fun p => (partF f p).length) ∧ ρ' = [.sh (fieldD f), .no], ⟨rfl, rfl⟩, ?_, ?_⟩
  · rintro t d acc ρ' ht rfl ⟨rfl, rfl⟩
    have ht : t < (((f.map optD).length : Nat) : Int).toNat := ht
    have e0 : (0 : Int) + (t : Int) = (t : Int) := by omega
    refine ⟨fun _ => ⟨f, t, by show [Sl.sh (fieldD f), .sh (.int (0 + (t : Int)))] = _; rw [e0], ok, fun post => ⟨by rw [natsD_len, List.length_map, List.length_range]; omega, ?_, rfl⟩⟩, fun z => (by cases z)⟩
    show natsD _ ++ [D.int ((natsD (partF f t)).length : Int)] = _
    rw [natsD_len, List.range_succ, List.map_append]
    unfold natsD
    rw [List.map_append]
    rfl
  · rintro acc ρ' ⟨rfl, rfl⟩
    refine kn k ?_
    show natsD _ = natsD ((List.range (((f.map optD).length : Nat) : Int).toNat).map _)
    rw [hm2]
    rfl
end
end KB
/-! races: plain mathematics -/
namespace DL
open PySem L2
/-- n has at most k bits -/
structure Lt2 (n k : Nat) : Prop where
  lt : n < 2 ^ k
theorem Lt2.log {n k : Nat} (h : Lt2 n k) (hk : 0 < k) : n.log2 < k := by
  by_cases e : n = 0
  · rw [e, Nat.log2_zero]; exact hk
  · exact (Nat.log2_lt e).mpr h.lt
theorem Lt2.mul {a b i j : Nat} (h : Lt2 a i) (h' : Lt2 b j) : Lt2 (a * b) (i + j) := ⟨by
  rw [Nat.pow_add]
  exact Nat.mul_lt_mul'' h.lt h'.lt⟩
theorem Lt2.le {a b i : Nat} (h : Lt2 b i) (l : a ≤ b) : Lt2 a i := ⟨Nat.lt_of_le_of_lt l h.lt⟩
theorem Lt2.mono {a i j : Nat} (h : Lt2 a i) (l : i ≤ j) : Lt2 a j := ⟨Nat.lt_of_lt_of_le h.lt (Nat.pow_le_pow_right (by omega) l)⟩
theorem lt2_60 {a : Nat} (h : a ≤ 120) : Lt2 a 7 := ⟨by
  have : (2 : Nat) ^ 7 = 128 := by decide
  omega⟩
theorem log_mul {a b k l : Nat} {i j : Int} (ei : i = (a : Int)) (ej : j = (b : Int)) (ha : Lt2 a k) (hb : Lt2 b l) (h : k + l ≤ 900000) : i.natAbs.log2 + j.natAbs.log2 < 1000000 := by
  rw [ei, ej, Int.natAbs_natCast, Int.natAbs_natCast]
  have h1 := (ha.mono (Nat.le_succ k)).log (Nat.succ_pos k)
  have h2 := (hb.mono (Nat.le_succ l)).log (Nat.succ_pos l)
  omega
def redF (a b : Nat) : Nat × Nat := (a / Nat.gcd a b, b / Nat.gcd a b)
def cellF (a b : List Nat) : Nat → Nat → Nat × Nat
  | 0, _ => (1, 1)
  | _ + 1, 0 => (0, 1)
  | i + 1, j + 1 => redF (a.getD i 0 * (cellF a b i (j + 1)).1 * (cellF a b (i + 1) j).2 + b.getD j 0 * (cellF a b (i + 1) j).1 * (cellF a b i (j + 1)).2)
      ((a.getD i 0 + b.getD j 0) * (cellF a b i (j + 1)).2 * (cellF a b (i + 1) j).2)
  termination_by i j => i + j
def raceF (a b : List Nat) : Nat × Nat := cellF a.reverse b.reverse a.length b.length
/-- a row's sums together -/
def rowP (a b : List Nat) (i : Nat) : Nat → Nat
  | 0 => 1
  | j + 1 => rowP a b i j * (a.getD i 0 + b.getD j 0)
def denP (a b : List Nat) : Nat → Nat → Nat
  | 0, _ => 1
  | i + 1, j => denP a b i j * rowP a b i j
theorem cell0 (a b : List Nat) (j : Nat) : cellF a b 0 j = (1, 1) := by unfold cellF; rfl
theorem cell1 (a b : List Nat) (i : Nat) : cellF a b (i + 1) 0 = (0, 1) := by unfold cellF; rfl
theorem cell2 (a b : List Nat) (i j : Nat) : cellF a b (i + 1) (j + 1) = redF (a.getD i 0 * (cellF a b i (j + 1)).1 * (cellF a b (i + 1) j).2 + b.getD j 0 * (cellF a b (i + 1) j).1 * (cellF a b i (j + 1)).2)
      ((a.getD i 0 + b.getD j 0) * (cellF a b i (j + 1)).2 * (cellF a b (i + 1) j).2) := by rw [cellF]
theorem den_up (a b : List Nat) : ∀ i j, denP a b i j ∣ denP a b i (j + 1)
  | 0, _ => by unfold denP; exact Nat.dvd_refl _
  | i + 1, j => by
    unfold denP
    exact Nat.mul_dvd_mul (den_up a b i j) (by conv => rhs; unfold rowP
                                               exact Nat.dvd_mul_right _ _)
theorem redF_spec {n d m : Nat} (hd : 0 < d) (hn : n ≤ d) (hm : d ∣ m * n) (h2 : 0 < m) : 0 < (redF n d).2 ∧ (redF n d).1 ≤ (redF n d).2 ∧ (redF n d).2 ∣ m := by
  unfold redF
  have hg : 0 < Nat.gcd n d := Nat.gcd_pos_of_pos_right n hd
  obtain ⟨u, hu⟩ := Nat.gcd_dvd_right n d
  obtain ⟨v, hv⟩ := Nat.gcd_dvd_left n d
  refine ⟨Nat.div_pos (Nat.le_of_dvd hd (Nat.gcd_dvd_right n d)) hg, Nat.div_le_div_right hn, ?_⟩
  have hc : Nat.Coprime (d / Nat.gcd n d) (n / Nat.gcd n d) := (Nat.coprime_div_gcd_div_gcd hg).symm
  refine hc.dvd_of_dvd_mul_right ?_
  obtain ⟨t, ht⟩ := hm
  refine ⟨t, ?_⟩
  have e1 : n / Nat.gcd n d * Nat.gcd n d = n := Nat.div_mul_cancel (Nat.gcd_dvd_left n d)
  have e2 : d / Nat.gcd n d * Nat.gcd n d = d := Nat.div_mul_cancel (Nat.gcd_dvd_right n d)
  apply Nat.eq_of_mul_eq_mul_right hg
  calc m * (n / Nat.gcd n d) * Nat.gcd n d = m * n := by rw [Nat.mul_assoc, e1]
    _ = d * t := ht
    _ = d / Nat.gcd n d * Nat.gcd n d * t := by rw [e2]
    _ = d / Nat.gcd n d * t * Nat.gcd n d := by rw [Nat.mul_assoc, Nat.mul_comm (Nat.gcd n d) t, Nat.mul_assoc]
theorem row_pos {a b : List Nat} (ha : ∀ x ∈ a, 0 < x) {i : Nat} (hi : i < a.length) : ∀ j, 0 < rowP a b i j
  | 0 => by unfold rowP; omega
  | j + 1 => by
    unfold rowP
    refine Nat.mul_pos (row_pos ha hi j) ?_
    have : 0 < a.getD i 0 := by
      rw [List.getD_eq_getElem?_getD, List.getElem?_eq_getElem hi]
      exact ha _ (List.getElem_mem hi)
    omega
theorem den_pos {a b : List Nat} (ha : ∀ x ∈ a, 0 < x) : ∀ {i : Nat} (j : Nat), i ≤ a.length → 0 < denP a b i j
  | 0, _, _ => by unfold denP; omega
  | i + 1, j, hi => by
    unfold denP
    exact Nat.mul_pos (den_pos ha j (by omega)) (row_pos ha (by omega) j)
theorem cell_ok {a b : List Nat} (ha : ∀ x ∈ a, 0 < x) : ∀ (n i j : Nat), i + j = n → i ≤ a.length → 0 < (cellF a b i j).2 ∧ (cellF a b i j).1 ≤ (cellF a b i j).2 ∧ (cellF a b i j).2 ∣ denP a b i j
  | _, 0, j, _, _ => by rw [cell0]; exact ⟨by decide, by decide, Nat.one_dvd _⟩
  | _, i + 1, 0, _, _ => by rw [cell1]; exact ⟨by decide, by decide, Nat.one_dvd _⟩
  | 0, i + 1, j + 1, h, _ => by omega
  | n + 1, i + 1, j + 1, h, hi => by
    obtain ⟨p1, p2, p3⟩ := cell_ok (b := b) ha n i (j + 1) (by omega) (by omega)
    obtain ⟨q1, q2, q3⟩ := cell_ok (b := b) ha n (i + 1) j (by omega) hi
    rw [cell2]
    generalize cellF a b i (j + 1) = c1 at p1 p2 p3 ⊢
    generalize cellF a b (i + 1) j = c2 at q1 q2 q3 ⊢
    obtain ⟨p, q⟩ := c1
    obtain ⟨r, s⟩ := c2
    simp only at p1 p2 p3 q1 q2 q3 ⊢
    have hx : 0 < a.getD i 0 := by
      rw [List.getD_eq_getElem?_getD, List.getElem?_eq_getElem (by omega)]
      exact ha _ (List.getElem_mem (by omega))
    have hm : 0 < denP a b (i + 1) (j + 1) := den_pos ha _ hi
    have em : denP a b (i + 1) (j + 1) = denP a b i (j + 1) * rowP a b i j * (a.getD i 0 + b.getD j 0) := by
      show denP a b i (j + 1) * (rowP a b i j * (a.getD i 0 + b.getD j 0)) = _
      rw [Nat.mul_assoc]
    generalize a.getD i 0 = x at hx em ⊢
    generalize b.getD j 0 = y at em ⊢
    refine redF_spec (Nat.mul_pos (Nat.mul_pos (by omega) p1) q1) ?_ ?_ hm
    · have e1 : x * p * s ≤ x * q * s := Nat.mul_le_mul_right _ (Nat.mul_le_mul_left _ p2)
      have e2 : y * r * q ≤ y * s * q := Nat.mul_le_mul_right _ (Nat.mul_le_mul_left _ q2)
      have e3 : (x + y) * q * s = x * q * s + y * s * q := by
        rw [Nat.add_mul, Nat.add_mul, Nat.mul_assoc y q s, Nat.mul_comm q s, ← Nat.mul_assoc]
      omega
    · obtain ⟨u, hu⟩ : q ∣ denP a b i (j + 1) * rowP a b i j := Nat.dvd_trans p3 (Nat.dvd_mul_right _ _)
      obtain ⟨v, hv⟩ : s ∣ denP a b i (j + 1) * rowP a b i j := by
        refine Nat.dvd_trans q3 ?_
        show denP a b i j * rowP a b i j ∣ _
        exact Nat.mul_dvd_mul_right (den_up a b i j) _
      rw [em]
      refine ⟨x * p * u + y * r * v, ?_⟩
      have k1 : denP a b i (j + 1) * rowP a b i j * (x + y) * (x * p * s + y * r * q) = (x + y) * (x * p * s * (denP a b i (j + 1) * rowP a b i j) + y * r * q * (denP a b i (j + 1) * rowP a b i j)) := by grind
      rw [k1]
      have k2 : x * p * s * (denP a b i (j + 1) * rowP a b i j) = x * p * s * (q * u) := by rw [hu]
      have k3 : y * r * q * (denP a b i (j + 1) * rowP a b i j) = y * r * q * (s * v) := by rw [hv]
      rw [k2, k3]
      grind
theorem row_lt {a b : List Nat} (h : ∀ x ∈ a, x ≤ 60) (h' : ∀ x ∈ b, x ≤ 60) (i : Nat) : ∀ j, rowP a b i j ≤ 128 ^ j
  | 0 => by unfold rowP; omega
  | j + 1 => by
    unfold rowP
    have e : ∀ (l : List Nat), (∀ x ∈ l, x ≤ 60) → ∀ k, l.getD k 0 ≤ 60 := fun l hl k => by
      rw [List.getD_eq_getElem?_getD]
      cases q : l[k]? with
      | none => simp
      | some z => exact hl z (List.mem_of_getElem? q)
    rw [Nat.pow_succ]
    have h1 := e a h i
    have h2 := e b h' j
    exact Nat.mul_le_mul (row_lt h h' i j) (by omega)
theorem den_lt {a b : List Nat} (h : ∀ x ∈ a, x ≤ 60) (h' : ∀ x ∈ b, x ≤ 60) : ∀ i j, denP a b i j ≤ 128 ^ (i * j)
  | 0, j => by unfold denP; simp
  | i + 1, j => by
    unfold denP
    rw [Nat.add_mul, Nat.one_mul, Nat.pow_add]
    exact Nat.mul_le_mul (den_lt h h' i j) (row_lt h h' i j)
theorem cell_lt2 {a b : List Nat} (ha : ∀ x ∈ a, 0 < x ∧ x ≤ 60) (hb : ∀ x ∈ b, x ≤ 60) {i j : Nat} (hi : i ≤ a.length) : Lt2 (cellF a b i j).2 (7 * (i * j) + 1) := by
  obtain ⟨_, _, h3⟩ := cell_ok (b := b) (fun x hx => (ha x hx).1) (i + j) i j rfl hi
  have h4 := Nat.le_of_dvd (den_pos (fun x hx => (ha x hx).1) j hi) h3
  have h5 := den_lt (fun x hx => (ha x hx).2) hb i j
  refine ⟨?_⟩
  have e : (128 : Nat) ^ (i * j) = 2 ^ (7 * (i * j)) := by
    rw [show (128 : Nat) = 2 ^ 7 from by decide, ← Nat.pow_mul]
  rw [e] at h5
  rw [Nat.pow_succ]
  have : 0 < 2 ^ (7 * (i * j)) := Nat.pow_pos (by omega)
  omega
/-- both shares together are the whole -/
theorem cell_sum {a b : List Nat} (ha : ∀ x ∈ a, 0 < x) (hb : ∀ x ∈ b, 0 < x) : ∀ (n i j : Nat), i + j = n → 0 < n → i ≤ a.length → j ≤ b.length →
    (cellF a b i j).1 * (cellF b a j i).2 + (cellF b a j i).1 * (cellF a b i j).2 = (cellF a b i j).2 * (cellF b a j i).2
  | _, 0, 0, h, hn, _, _ => by omega
  | _, 0, j + 1, _, _, _, _ => by simp [cell0, cell1]
  | _, i + 1, 0, _, _, _, _ => by simp [cell0, cell1]
  | 0, i + 1, j + 1, h, _, _, _ => by omega
  | n + 1, i + 1, j + 1, h, _, hi, hj => by
    obtain ⟨p1, p2, _⟩ := cell_ok (b := b) ha (i + (j + 1)) i (j + 1) rfl (by omega)
    obtain ⟨q1, q2, _⟩ := cell_ok (b := b) ha (i + 1 + j) (i + 1) j rfl hi
    obtain ⟨p1', p2', _⟩ := cell_ok (b := a) hb (j + (i + 1)) j (i + 1) rfl (by omega)
    obtain ⟨q1', q2', _⟩ := cell_ok (b := a) hb (j + 1 + i) (j + 1) i rfl hj
    have s1 := cell_sum ha hb n i (j + 1) (by omega) (by omega) (by omega) hj
    have s2 := cell_sum ha hb n (i + 1) j (by omega) (by omega) hi (by omega)
    have hx : 0 < a.getD i 0 := by
      rw [List.getD_eq_getElem?_getD, List.getElem?_eq_getElem (by omega)]
      exact ha _ (List.getElem_mem (by omega))
    rw [cell2 a b i j, cell2 b a j i]
    generalize cellF a b i (j + 1) = c1 at p1 p2 s1 ⊢
    generalize cellF a b (i + 1) j = c2 at q1 q2 s2 ⊢
    generalize cellF b a j (i + 1) = c3 at p1' p2' s2 ⊢
    generalize cellF b a (j + 1) i = c4 at q1' q2' s1 ⊢
    obtain ⟨p, q⟩ := c1
    obtain ⟨r, s⟩ := c2
    obtain ⟨r', s'⟩ := c3
    obtain ⟨p', q'⟩ := c4
    simp only at p1 q1 p1' q1' s1 s2 ⊢
    generalize a.getD i 0 = x at hx ⊢
    generalize b.getD j 0 = y at ⊢
    have big : (x * p * s + y * r * q) * ((y + x) * s' * q') + (y * r' * q' + x * p' * s') * ((x + y) * q * s) = ((x + y) * q * s) * ((y + x) * s' * q') := by
      have e1 : (x * p * s + y * r * q) * ((y + x) * s' * q') + (y * r' * q' + x * p' * s') * ((x + y) * q * s) = (x + y) * (x * (s * s') * (p * q' + p' * q) + y * (q * q') * (r * s' + r' * s)) := by grind
      rw [e1, s1, s2]
      grind
    have hA : 0 < (x + y) * q * s := Nat.mul_pos (Nat.mul_pos (by omega) p1) q1
    have hB : 0 < (y + x) * s' * q' := Nat.mul_pos (Nat.mul_pos (by omega) p1') q1'
    generalize hN : x * p * s + y * r * q = N at big ⊢
    generalize hM : y * r' * q' + x * p' * s' = M at big ⊢
    generalize (x + y) * q * s = A at big hA ⊢
    generalize (y + x) * s' * q' = B at big hB ⊢
    unfold redF
    have g1 : 0 < Nat.gcd N A := Nat.gcd_pos_of_pos_right N hA
    have g2 : 0 < Nat.gcd M B := Nat.gcd_pos_of_pos_right M hB
    have f1 : N / Nat.gcd N A * Nat.gcd N A = N := Nat.div_mul_cancel (Nat.gcd_dvd_left N A)
    have f2 : A / Nat.gcd N A * Nat.gcd N A = A := Nat.div_mul_cancel (Nat.gcd_dvd_right N A)
    have f3 : M / Nat.gcd M B * Nat.gcd M B = M := Nat.div_mul_cancel (Nat.gcd_dvd_left M B)
    have f4 : B / Nat.gcd M B * Nat.gcd M B = B := Nat.div_mul_cancel (Nat.gcd_dvd_right M B)
    simp only
    generalize N / Nat.gcd N A = n1 at f1 ⊢
    generalize A / Nat.gcd N A = a1 at f2 ⊢
    generalize M / Nat.gcd M B = m1 at f3 ⊢
    generalize B / Nat.gcd M B = b1 at f4 ⊢
    generalize Nat.gcd N A = g at g1 f1 f2 ⊢
    generalize Nat.gcd M B = k at g2 f3 f4 ⊢
    apply Nat.eq_of_mul_eq_mul_right (Nat.mul_pos g1 g2)
    subst f1 f2 f3 f4
    grind
end DL
namespace KB
open PySem PySem.Spec PyProof.Rows L2 DL
/-! ### fractions -/
def sp_common : DSp := fun as Rr => ∃ a b : Nat, as = [.sh (.int a), .sh (.int b)] ∧ ∀ post, Rr (.val (.int (Nat.gcd a b : Nat))) post
theorem law_common (as : List Sl) (Rr : Res → List Sl → Prop) (h : sp_common as Rr) : t_common (fun er ρ => Rr (.er er) (outs as ρ)) (bodyEd as Rr) (as ++ List.replicate 0 .no) := by
  obtain ⟨a, b, rfl, k⟩ := h
  refine ⟨fun m ρ => ∃ x y : Nat, ρ = [.sh (.int x), .sh (.int y)] ∧ y = m ∧ Nat.gcd x y = Nat.gcd a b, ⟨b, a, b, rfl, rfl, rfl⟩, ?_⟩
  rintro m ρ ⟨x, y, rfl, rfl, hg⟩
  refine ⟨fun h => ?_, fun h => ?_⟩
  · have hy : ¬ ((y : Int) = 0) := by simpa using h
    refine ⟨by omega, x % y, Nat.mod_lt _ (by omega), y, x % y, ?_, rfl, ?_⟩
    · show [Sl.sh (.int y), Sl.sh (.int ((x : Int) % (y : Int)))] = _
      rw [Int.natCast_emod]
    · rw [← hg, Nat.gcd_comm x y, Nat.gcd_rec y x, Nat.gcd_comm]
  · have hy : (y : Int) = 0 := by simpa using h
    have hy : y = 0 := by omega
    subst hy
    exact kv k (by rw [← hg]; simp)
def sp_reduced : DSp := fun as Rr => ∃ a b : Nat, as = [.sh (.int a), .sh (.int b)] ∧ 0 < b ∧ Lt2 b 9000 ∧ ∀ post, Rr (.val (frD (redF a b))) post
theorem div_gcd {a b : Nat} (hb : 0 < b) (hl : Lt2 b 9000) : CDivD (a : Int) ((Nat.gcd a b : Nat) : Int) ∧ CDivD (b : Int) ((Nat.gcd a b : Nat) : Int) := by
  have hg : 0 < Nat.gcd a b := Nat.gcd_pos_of_pos_right a hb
  have hle := Nat.le_of_dvd hb (Nat.gcd_dvd_right a b)
  have := (hl.le hle).log (by omega)
  unfold CDivD
  rw [Int.natAbs_natCast]
  exact ⟨⟨by omega, this⟩, by omega, this⟩
theorem law_reduced (as : List Sl) (Rr : Res → List Sl → Prop) (h : sp_reduced as Rr) : t_reduced sp_common (fun er ρ => Rr (.er er) (outs as ρ)) (bodyEd as Rr) (as ++ List.replicate 1 .no) := by
  obtain ⟨a, b, rfl, hb, hl, k⟩ := h
  obtain ⟨c1, c2⟩ := div_gcd (a := a) hb hl
  refine ⟨a, b, rfl, fun post => ⟨c1, c2, ?_⟩⟩
  refine kv k ?_
  show frD (redF a b) = .tup [.int ((a : Int) / ((Nat.gcd a b : Nat) : Int)), .int ((b : Int) / ((Nat.gcd a b : Nat) : Int))]
  unfold frD redF
  simp only
  rw [Int.natCast_ediv, Int.natCast_ediv]
/-! ### races -/
structure RowOk (a : List Nat) : Prop where
  len : a.length ≤ 60
  lo : ∀ x ∈ a, 0 < x
  hi : ∀ x ∈ a, x ≤ 60
/-- the cells' numbers are short -/
def CellOk (a b : List Nat) : Prop := ∀ i j, i ≤ a.length → j ≤ b.length → Lt2 (cellF a.reverse b.reverse i j).2 4201
theorem cellOk_of {a b : List Nat} (oa : RowOk a) (ob : RowOk b) (h : a.length * b.length ≤ 600) : CellOk a b := fun i j hi hj =>
  (cell_lt2 (fun x hx => ⟨oa.lo x (by simpa using hx), oa.hi x (by simpa using hx)⟩) (fun x hx => ob.hi x (by simpa using hx)) (by rw [List.length_reverse]; exact hi)).mono (by
    have : i * j ≤ a.length * b.length := Nat.mul_le_mul hi hj
    omega)
def sp_race_of : DSp := fun as Rr => ∃ a b : List Nat, as = [.sh (.tup (natsD a)), .sh (.tup (natsD b))] ∧ RowOk a ∧ RowOk b ∧ CellOk a b ∧ ∀ post, Rr (.val (frD (raceF a b))) post
theorem nats_at {l : List Nat} {i x : Nat} (h : l[i]? = some x) : (natsD l)[i]? = some (.int x) := by
  unfold natsD
  rw [List.getElem?_map, h]
  rfl
theorem nats_rev (l : List Nat) : (natsD l).reverse = natsD l.reverse := by
  unfold natsD
  rw [List.map_reverse]
/-- a slot that holds these as a list -/
def IsL (s : Sl) (xs : List D) : Prop := s = .sh (.lst xs) ∨ s = .ow true xs
/-- the cells of a row, up to j -/
def rowD (a b : List Nat) (i j : Nat) : List D := (List.range (j + 1)).map fun t => frD (cellF a b i t)
theorem rowD_at {a b : List Nat} {i j t : Nat} (h : t ≤ j) : (rowD a b i j)[t]? = some (frD (cellF a b i t)) := by
  unfold rowD
  rw [List.getElem?_map, List.getElem?_range (by omega)]
  rfl
theorem rowD_len (a b : List Nat) (i j : Nat) : (rowD a b i j).length = j + 1 := by
  unfold rowD
  rw [List.length_map, List.length_range]
theorem rowD_snoc (a b : List Nat) (i j : Nat) : rowD a b i j ++ [frD (cellF a b i (j + 1))] = rowD a b i (j + 1) := by
  unfold rowD
  rw [List.range_succ (n := j + 1), List.map_append]
  rfl
theorem rowD_last {a b : List Nat} {i j : Nat} : atI (rowD a b i j) (-1) = some (frD (cellF a b i j)) := by
  refine atI_neg (i := 0) (by simp) ?_
  rw [List.getElem?_reverse (by rw [rowD_len]; omega), rowD_len]
  exact rowD_at (by omega)
theorem rowD_zero (a b : List Nat) (i : Nat) : rowD a b (i + 1) 0 = [frD (0, 1)] := by
  unfold rowD
  rw [show List.range (0 + 1) = [0] from rfl, List.map_cons, List.map_nil, cell1]
theorem getD_at {l : List Nat} {i : Nat} (h : i < l.length) : l[i]? = some (l.getD i 0) := by
  rw [List.getD_eq_getElem?_getD, List.getElem?_eq_getElem h]
  rfl
theorem law_race_of (as : List Sl) (Rr : Res → List Sl → Prop) (h : sp_race_of as Rr) : t_race_of sp_reduced (fun er ρ => Rr (.er er) (outs as ρ)) (bodyEd as Rr) (as ++ List.replicate 10 .no) := by
  obtain ⟨a, b, rfl, oa, ob, hab, k⟩ := h
  have la := oa.len
  have lb := ob.len
  have na := natsD_len a
  have nb := natsD_len b
  have alo : ∀ x ∈ a.reverse, 0 < x := fun x hx => oa.lo x (by simpa using hx)
  have ahi : ∀ x ∈ a.reverse, 0 < x ∧ x ≤ 60 := fun x hx => ⟨oa.lo x (by simpa using hx), oa.hi x (by simpa using hx)⟩
  have bhi : ∀ x ∈ b.reverse, x ≤ 60 := fun x hx => ob.hi x (by simpa using hx)
  have h0 : (natsD b).length = b.length := nb
  refine ⟨⟨by rw [nb]; omega, by rw [nb]; omega, by show 1 * (((natsD b).length : Int) + 1).toNat ≤ _; rw [nb]; omega⟩, ⟨by rw [na]; omega, by rw [na]; omega⟩,
    fun i ρ => ∃ s2 s3 s4 s5 s6 s7 s8 s9 s10 s11, ρ = [.sh (.tup (natsD a)), .sh (.tup (natsD b)), s2, s3, s4, s5, s6, s7, s8, s9, s10, s11] ∧ IsL s2 (rowD a.reverse b.reverse i b.length), ⟨_, _, _, _, _, _, _, _, _, _, rfl, .inr ?_⟩, ?_, ?_⟩
  · show Sl.ow true (List.replicate (((natsD b).length : Int) + 1).toNat [frD (1, 1)]).flatten = _
    rw [nb]
    congr 1
    rw [show ((b.length : Int) + 1).toNat = b.length + 1 by omega, List.flatten_replicate_singleton]
    unfold rowD
    simp only [cell0]
    rw [List.map_const', List.length_range]
  · rintro i d ρ hi rfl ⟨s2, s3, s4, s5, s6, s7, s8, s9, s10, s11, rfl, h2⟩
    have hi : i < ((natsD a).length : Int).toNat := hi
    rw [na] at hi
    have hi : i < a.length := by omega
    have hx : a.reverse[i]? = some (a.reverse.getD i 0) := getD_at (by rw [List.length_reverse]; exact hi)
    refine ⟨trivial, _, atI_neg (i := i) (by show (-1 : Int) - (0 + (i : Int)) = -1 - (i : Int); omega) (by rw [nats_rev]; exact nats_at hx), ?_⟩
    have hx60 : a.reverse.getD i 0 ≤ 60 := (ahi _ (List.mem_of_getElem? hx)).2
    have hx0 : 0 < a.reverse.getD i 0 := (ahi _ (List.mem_of_getElem? hx)).1
    show ∃ J : Nat → List Sl → Prop, _
    refine ⟨fun j ρ => ∃ s6 s7 s8 s9 s10 s11, ρ = [.sh (.tup (natsD a)), .sh (.tup (natsD b)), s2, .sh (.int (0 + (i : Int))), .sh (.int (a.reverse.getD i 0 : Nat)), .ow true (rowD a.reverse b.reverse (i + 1) j), s6, s7, s8, s9, s10, s11],
      ⟨s6, s7, s8, s9, s10, s11, ?_⟩, ?_, ?_⟩
    · rw [rowD_zero]
      rfl
    · rintro j d ρ hj ⟨y, hy, rfl⟩ ⟨s6, s7, s8, s9, s10, s11, rfl⟩
      have hj : j < (natsD b).reverse.length := hj
      have hj : j < b.length := by rw [List.length_reverse, nb] at hj; exact hj
      have hyb : b.reverse[j]? = some (b.reverse.getD j 0) := getD_at (by rw [List.length_reverse]; exact hj)
      have hy : (natsD b).reverse[j]? = some y := hy
      rw [nats_rev, nats_at hyb] at hy
      cases hy
      have hy60 : b.reverse.getD j 0 ≤ 60 := bhi _ (List.mem_of_getElem? hyb)
      obtain ⟨p1, p2, _⟩ := cell_ok (b := b.reverse) alo (i + (j + 1)) i (j + 1) rfl (by rw [List.length_reverse]; omega)
      obtain ⟨q1, q2, _⟩ := cell_ok (b := b.reverse) alo (i + 1 + j) (i + 1) j rfl (by rw [List.length_reverse]; omega)
      have b1 := hab i (j + 1) (by omega) (by omega)
      have b2 := hab (i + 1) j (by omega) (by omega)
      have row1 : ∃ d, atI (rowD a.reverse b.reverse i b.length) ((j : Int) + 1) = some d ∧ d = frD (cellF a.reverse b.reverse i (j + 1)) :=
        ⟨_, by have q := atI_nat (rowD_at (a := a.reverse) (b := b.reverse) (i := i) (j := b.length) (t := j + 1) (by omega)); simpa using q, rfl⟩
      obtain ⟨_, r1, rfl⟩ := row1
      have r2 := rowD_last (a := a.reverse) (b := b.reverse) (i := i + 1) (j := j)
      have hrl := rowD_len a.reverse b.reverse (i + 1) j
      have c3 := cell2 a.reverse b.reverse i j
      have sn := rowD_snoc a.reverse b.reverse (i + 1) j
      rw [c3] at sn
      generalize hp : cellF a.reverse b.reverse i (j + 1) = c1 at p1 p2 b1 r1 sn
      generalize hr : cellF a.reverse b.reverse (i + 1) j = c2 at q1 q2 b2 r2 sn
      obtain ⟨p, q⟩ := c1
      obtain ⟨r, s⟩ := c2
      simp only at p1 p2 b1 q1 q2 b2 sn
      generalize a.reverse.getD i 0 = x at hx60 hx0 sn ⊢
      generalize b.reverse.getD j 0 = z at hy60 sn ⊢
      have t1 : Lt2 p 4201 := b1.le p2
      have t2 : Lt2 r 4201 := b2.le q2
      have x7 : Lt2 x 7 := lt2_60 (by omega)
      have z7 : Lt2 z 7 := lt2_60 (by omega)
      have m1 : CMulD (x : Int) (p : Int) := log_mul rfl rfl x7 t1 (by omega)
      have m2 : CMulD ((x : Int) * (p : Int)) (s : Int) := log_mul (by rw [← Int.natCast_mul]) rfl (x7.mul t1) b2 (by omega)
      have m3 : CMulD (z : Int) (r : Int) := log_mul rfl rfl z7 t2 (by omega)
      have m4 : CMulD ((z : Int) * (r : Int)) (q : Int) := log_mul (by rw [← Int.natCast_mul]) rfl (z7.mul t2) b1 (by omega)
      have m5 : CMulD ((x : Int) + (z : Int)) (q : Int) := log_mul (a := x + z) (by omega) rfl (lt2_60 (by omega)) b1 (by omega)
      have m6 : CMulD (((x : Int) + (z : Int)) * (q : Int)) (s : Int) := log_mul (a := (x + z) * q) (by rw [Int.natCast_mul, Int.natCast_add]) rfl ((lt2_60 (a := x + z) (by omega)).mul b1) b2 (by omega)
      have hD : 0 < (x + z) * q * s := Nat.mul_pos (Nat.mul_pos (by omega) p1) q1
      have hL : Lt2 ((x + z) * q * s) 9000 := (((lt2_60 (a := x + z) (by omega)).mul b1).mul b2).mono (by omega)
      have ea : [Sl.sh (.int ((x : Int) * (p : Int) * (s : Int) + (z : Int) * (r : Int) * (q : Int))), Sl.sh (.int (((x : Int) + (z : Int)) * (q : Int) * (s : Int)))] = [Sl.sh (.int ((x * p * s + z * r * q : Nat) : Int)), Sl.sh (.int (((x + z) * q * s : Nat) : Int))] := by
        simp only [Int.natCast_add, Int.natCast_mul]
      rcases h2 with rfl | rfl
      · refine ⟨rfl, rfl, _, r1, rfl, rfl, _, r2, rfl, rfl, rfl, m1, m2, m3, m4, m5, m6, _, _, ea, hD, hL, fun post => ⟨by rw [hrl]; omega, ?_⟩⟩
        refine ⟨.sh (.int (j : Int)), .sh (.int (z : Int)), .sh (.int (p : Int)), .sh (.int (q : Int)), .sh (.int (r : Int)), .sh (.int (s : Int)), ?_⟩
        rw [← sn]
        rfl
      · refine ⟨rfl, rfl, _, r1, rfl, rfl, _, r2, rfl, rfl, rfl, m1, m2, m3, m4, m5, m6, _, _, ea, hD, hL, fun post => ⟨by rw [hrl]; omega, ?_⟩⟩
        refine ⟨.sh (.int (j : Int)), .sh (.int (z : Int)), .sh (.int (p : Int)), .sh (.int (q : Int)), .sh (.int (r : Int)), .sh (.int (s : Int)), ?_⟩
        rw [← sn]
        rfl
    · rintro ρ ⟨s6, s7, s8, s9, s10, s11, rfl⟩
      refine ⟨_, _, _, _, _, _, _, _, _, _, rfl, .inl ?_⟩
      show Sl.sh (.lst (rowD a.reverse b.reverse (i + 1) (natsD b).reverse.length)) = _
      rw [List.length_reverse, nb]
  · rintro ρ ⟨s2, s3, s4, s5, s6, s7, s8, s9, s10, s11, rfl, h2⟩
    have e : ((natsD a).length : Int).toNat = a.length := by rw [na]; omega
    have h2 : IsL s2 (rowD a.reverse b.reverse ((natsD a).length : Int).toNat b.length) := h2
    rw [e] at h2
    rcases h2 with rfl | rfl
    · exact ⟨_, rowD_last, k _⟩
    · exact ⟨_, rowD_last, k _⟩
/-! ### numbers of data -/
def natOf : D → Nat
  | .int i => i.toNat
  | _ => 0
theorem natOf_nats (a : List Nat) : (natsD a).map natOf = a := by
  unfold natsD
  rw [List.map_map]
  induction a with
  | nil => rfl
  | cons x a ih =>
    rw [List.map_cons, ih]
    congr 1
end KB
/-! fields: ways, parts, shares -/
namespace DL
open PySem L2
theorem nodup_lt : ∀ (n : Nat) (l : List Nat), l.Nodup → (∀ x ∈ l, x < n) → l.length ≤ n
  | 0, [], _, _ => Nat.le_refl _
  | 0, x :: l, _, h => absurd (h x List.mem_cons_self) (by omega)
  | n + 1, l, hd, h => by
    have h1 := nodup_lt n (l.filter (fun x => decide (x ≠ n))) (hd.sublist List.filter_sublist) fun x hx => by
      have := List.mem_filter.mp hx
      have h2 := h x this.1
      have h3 : x ≠ n := by simpa using this.2
      omega
    have h2 : l.length ≤ (l.filter (fun x => decide (x ≠ n))).length + 1 := by
      clear h1 h
      induction l with
      | nil => simp
      | cons a l ih =>
        rw [List.filter_cons]
        have hd' := List.nodup_cons.mp hd
        by_cases e : a = n
        · subst e
          have : l.filter (fun x => decide (x ≠ a)) = l := List.filter_eq_self.mpr fun x hx => by
            have : x ≠ a := fun z => hd'.1 (z ▸ hx)
            simpa using this
          rw [if_neg (by simp), this]
          simp
        · rw [if_pos (by simpa using e)]
          have := ih hd'.2
          simp only [List.length_cons]
          omega
    omega
section
variable {f : List (Option Nat)}
theorem way_head (i : Nat) : i ∈ wayF f i := by
  unfold wayF
  cases f.length with
  | zero => simp [wayN]
  | succ n =>
    unfold wayN
    split <;> simp
theorem way_lt (h : FieldOk f) {i j : Nat} (hi : i < f.length) (hj : j ∈ wayF f i) : j < f.length := wayN_lt h.lt hi j hj
/-- strong induction up a field -/
theorem up_ind (h : FieldOk f) {P : Nat → Prop} (root : ∀ i, f[i]? = some none → P i) (step : ∀ i p, f[i]? = some (some p) → P p → P i) : ∀ i, i < f.length → P i := by
  have key : ∀ n i, comesN f n i = true → P i := by
    intro n
    induction n with
    | zero => intro i hc; cases hc
    | succ n ih =>
      intro i hc
      have hi := comesN_lt hc
      have hf : f[i]? = some f[i] := List.getElem?_eq_getElem hi
      cases hv : f[i] with
      | none => rw [hv] at hf; exact root i hf
      | some p =>
        rw [hv] at hf
        refine step i p hf (ih p ?_)
        unfold comesN at hc
        rw [hf] at hc
        exact hc
  exact fun i hi => key _ i (h.up i hi)
theorem way_len_le (h : FieldOk f) : ∀ i, i < f.length → ∀ j ∈ wayF f i, (wayF f j).length ≤ (wayF f i).length := by
  refine up_ind h (fun i hf j hj => ?_) fun i p hf ih j hj => ?_
  · rw [wayF_none hf] at hj
    simp at hj
    rw [hj]
    exact Nat.le_refl _
  · rw [wayF_some h hf] at hj ⊢
    rcases List.mem_cons.mp hj with rfl | hj
    · rw [wayF_some h hf]
      exact Nat.le_refl _
    · have := ih j hj
      simp only [List.length_cons]
      omega
theorem way_nodup (h : FieldOk f) : ∀ i, i < f.length → (wayF f i).Nodup := by
  refine up_ind h (fun i hf => ?_) fun i p hf ih => ?_
  · rw [wayF_none hf]; simp
  · rw [wayF_some h hf]
    refine List.nodup_cons.mpr ⟨fun hi => ?_, ih⟩
    have hp := h.lt i p hf
    have := way_len_le h p hp i hi
    rw [wayF_some h hf] at this
    simp only [List.length_cons] at this
    omega
/-- the sizes on the way down to i, from below those above j -/
def downF (f : List (Option Nat)) (i j : Nat) : List Nat := (((wayF f i).filter fun p => !(wayF f j).contains p).map fun p => (sizesF f).getD p 0).reverse
def relF (f : List (Option Nat)) (i j : Nat) : Bool := (wayF f j).contains i || (wayF f i).contains j
def shareF (f : List (Option Nat)) (i j : Nat) : Nat × Nat :=
  if relF f i j = true then (if (wayF f j).contains i && decide (i ≠ j) then 1 else 0, 1) else raceF (downF f i j) (downF f j i)
theorem size_at {p : Nat} (hp : p < f.length) : (sizesF f)[p]? = some (partF f p).length := by
  unfold sizesF
  rw [List.getElem?_map, List.getElem?_range hp]
  rfl
theorem size_getD {p : Nat} (hp : p < f.length) : (sizesF f).getD p 0 = (partF f p).length := by
  rw [List.getD_eq_getElem?_getD, size_at hp]
  rfl
theorem part_pos (h : FieldOk f) {p : Nat} (hp : p < f.length) : 0 < (partF f p).length ∧ (partF f p).length ≤ f.length := by
  unfold partF
  refine ⟨List.length_pos_of_mem (a := p) (List.mem_filter.mpr ⟨List.mem_range.mpr hp, ?_⟩), ?_⟩
  · rw [List.contains_iff_mem]; exact way_head p
  · have := List.length_filter_le (fun o => (wayF f o).contains p) (List.range f.length)
    rwa [List.length_range] at this
theorem down_mem (h : FieldOk f) {i j x : Nat} (hi : i < f.length) (hx : x ∈ downF f i j) : 0 < x ∧ x ≤ 60 := by
  unfold downF at hx
  rw [List.mem_reverse] at hx
  obtain ⟨p, hp, rfl⟩ := List.mem_map.mp hx
  have hp := way_lt h hi (List.mem_filter.mp hp).1
  rw [size_getD hp]
  have := part_pos h hp
  have := h.hi
  omega
theorem down_len (h : FieldOk f) {i j : Nat} (hi : i < f.length) (hj : j < f.length) : (downF f i j).length + (downF f j i).length ≤ f.length := by
  have e : (downF f i j).length + (downF f j i).length = (((wayF f i).filter fun p => !(wayF f j).contains p) ++ ((wayF f j).filter fun p => !(wayF f i).contains p)).length := by
    unfold downF
    simp
  rw [e]
  refine nodup_lt f.length _ ?_ fun x hx => ?_
  · refine List.nodup_append.mpr ⟨(way_nodup h i hi).sublist List.filter_sublist, (way_nodup h j hj).sublist List.filter_sublist, fun a ha b hb e => ?_⟩
    subst e
    have h1 := List.mem_filter.mp ha
    have h2 := List.mem_filter.mp hb
    have h3 : a ∉ wayF f i := by simpa using h2.2
    exact h3 h1.1
  · rcases List.mem_append.mp hx with hx | hx
    · exact way_lt h hi (List.mem_filter.mp hx).1
    · exact way_lt h hj (List.mem_filter.mp hx).1
theorem down_ne (h : FieldOk f) {i j : Nat} (hr : relF f i j = false) : (downF f i j) ≠ [] := by
  have : i ∈ (wayF f i).filter fun p => !(wayF f j).contains p := by
    refine List.mem_filter.mpr ⟨way_head i, ?_⟩
    unfold relF at hr
    simp only [Bool.or_eq_false_iff] at hr
    rw [hr.1]; rfl
  intro e
  unfold downF at e
  rw [List.reverse_eq_nil_iff, List.map_eq_nil_iff] at e
  rw [e] at this
  cases this
end
end DL
namespace KB
open PySem PySem.Spec PyProof.Rows L2 DL
def sp_share_ahead : DSp := fun as Rr => ∃ (f : List (Option Nat)) (i j : Nat), as = [.sh (fieldD f), .sh (.int i), .sh (.int j)] ∧ FieldOk f ∧ i < f.length ∧ j < f.length ∧ CellOk (downF f i j) (downF f j i) ∧ ∀ post, Rr (.val (frD (shareF f i j))) post
theorem is_not {P : Prop} {b : Bool} (h : b = true) (h' : b = false) : P := by rw [h] at h'; cases h'
theorem lc_down {f : List (Option Nat)} (ok : FieldOk f) {i j : Nat} (hi : i < f.length) : True := trivial
theorem down_rev (f : List (Option Nat)) (i j : Nat) : (natsD (((wayF f i).filter fun p => !(wayF f j).contains p).map fun p => (sizesF f).getD p 0)).reverse = natsD (downF f i j) := by
  rw [nats_rev]; rfl
/-- [sizes[player] for player in one if player not in other], from the ways' items -/
def dnD (f : List (Option Nat)) (a b : List Nat) (n : Nat) : List D := natsD (((a.take n).filter fun p => !b.contains p).map fun p => (sizesF f).getD p 0)
theorem dnD_in {f : List (Option Nat)} {a b : List Nat} {n p : Nat} (h : a[n]? = some p) (hb : b.contains p = false) : dnD f a b n ++ [.int ((sizesF f).getD p 0 : Nat)] = dnD f a b (n + 1) := by
  unfold dnD
  rw [List.take_add_one, h, List.filter_append, List.map_append]
  unfold natsD
  rw [List.map_append]
  simp only [Option.toList, List.filter_cons, hb, Bool.not_false, if_true, List.filter_nil, List.map_cons, List.map_nil]
theorem dnD_out {f : List (Option Nat)} {a b : List Nat} {n p : Nat} (h : a[n]? = some p) (hb : b.contains p = true) : dnD f a b n = dnD f a b (n + 1) := by
  unfold dnD
  rw [List.take_add_one, h, List.filter_append]
  simp only [Option.toList, List.filter_cons, hb, Bool.not_true, Bool.false_eq_true, if_false, List.filter_nil, List.append_nil]
theorem dnD_len {f : List (Option Nat)} {a b : List Nat} {n : Nat} : (dnD f a b n).length ≤ a.length := by
  unfold dnD
  rw [natsD_len, List.length_map]
  refine Nat.le_trans (List.length_filter_le _ _) ?_
  rw [List.length_take]
  omega
theorem law_share_ahead {aF aP : Addr} (as : List Sl) (Rr : Res → List Sl → Prop) (h : sp_share_ahead as Rr) : t_share_ahead sp_race_of sp_sizes_of sp_wayA (sp_look_at_one aP) (sp_look_at_field aF) (fun er ρ => Rr (.er er) (outs as ρ)) (bodyEd as Rr) (as ++ List.replicate 6 .no) := by
  obtain ⟨f, i, j, rfl, ok, hi, hj, hp, k⟩ := h
  have hm : (f.map optD).length = f.length := List.length_map _
  have wi : withinD (.int (i : Int)) 0 (((f.map optD).length : Int) - 1) = true := decide_eq_true (by rw [hm]; omega)
  have wj : withinD (.int (j : Int)) 0 (((f.map optD).length : Int) - 1) = true := decide_eq_true (by rw [hm]; omega)
  refine ⟨_, rfl, rfl, fun _ _ => ⟨_, _, rfl, fun _ _ => ⟨_, _, rfl, fun _ _ => ?_, is_not wj⟩, is_not wi⟩, is_not ok.is⟩
  refine ⟨f, i, rfl, ok, hi, fun _ => ⟨f, j, rfl, ok, hj, fun _ => ⟨rfl, rfl, ?_⟩⟩⟩
  have ret : relF f i j = true → rRet (rTup (rCons (rCB intOfD (rCons (rAnd (rBin (inD false) (rVar 1) (rVar 7)) (rBin (eqD true) (rVar 1) (rVar 2))) rNil)) (rCons (rC (.int 1)) rNil)))
      (bodyEd [.sh (fieldD f), .sh (.int i), .sh (.int j)] Rr) [.sh (fieldD f), .sh (.int i), .sh (.int j), .no, .no, .no, .sh (.lst (natsD (wayF f i))), .sh (.lst (natsD (wayF f j))), .no] := fun hr => by
    have es : shareF f i j = (if (wayF f j).contains i && decide (i ≠ j) then 1 else 0, 1) := by unfold shareF; rw [if_pos hr]
    refine ⟨⟨rfl, flat_nats _⟩, fun h => ?_, fun h => ?_⟩
    · have h : ((natsD (wayF f j)).any fun y => PyData.eqv y.py (D.int (i : Int)).py) = true := h
      rw [eqv_any] at h
      refine kv k ?_
      rw [es, h]
      show frD (if (true && decide (i ≠ j)) = true then 1 else 0, 1) = .tup [.int (if (!decide ((i : Int) = (j : Int))) = true then 1 else 0), .int 1]
      unfold frD
      by_cases e : i = j
      · subst e; simp
      · have e' : ¬ ((i : Int) = (j : Int)) := by omega
        simp [e, e']
    · have h : ((natsD (wayF f j)).any fun y => PyData.eqv y.py (D.int (i : Int)).py) = false := h
      rw [eqv_any] at h
      refine kv k ?_
      rw [es, h]
      rfl
  refine ⟨⟨rfl, flat_nats _⟩, fun h => ⟨fun _ => ret ?_, fun z => (by cases z)⟩, fun h => ⟨⟨rfl, flat_nats _⟩, fun h2 => ret ?_, fun h2 => ?_⟩⟩
  · have h : ((natsD (wayF f j)).any fun y => PyData.eqv y.py (D.int (i : Int)).py) = true := h
    rw [eqv_any] at h
    unfold relF
    rw [h]; rfl
  · have h2 : ((natsD (wayF f i)).any fun y => PyData.eqv y.py (D.int (j : Int)).py) = true := h2
    rw [eqv_any] at h2
    unfold relF
    rw [h2, Bool.or_true]
  · have h : ((natsD (wayF f j)).any fun y => PyData.eqv y.py (D.int (i : Int)).py) = false := h
    rw [eqv_any] at h
    have h2 : ((natsD (wayF f i)).any fun y => PyData.eqv y.py (D.int (j : Int)).py) = false := h2
    rw [eqv_any] at h2
    have hr : relF f i j = false := by unfold relF; rw [h, h2]; rfl
    have li : (wayF f i).length ≤ 61 := by have := wayN_length (f := f) (n := f.length) (i := i); have := ok.hi; unfold wayF; omega
    have lj : (wayF f j).length ≤ 61 := by have := wayN_length (f := f) (n := f.length) (i := j); have := ok.hi; unfold wayF; omega
    refine ⟨f, rfl, ok, fun _ => ?_⟩
    -- mine
    refine ⟨fun n acc ρ' => acc = dnD f (wayF f i) (wayF f j) n ∧ ρ' = [.sh (fieldD f), .sh (.int i), .sh (.int j), .ow true (natsD (sizesF f)), .no, .no, .sh (.lst (natsD (wayF f i))), .sh (.lst (natsD (wayF f j))), .no], ⟨rfl, rfl⟩, ?_, ?_⟩
    · rintro n d acc ρ' hn hd ⟨rfl, rfl⟩
      have hd : (natsD (wayF f i))[n]? = some d := hd
      have hn : n < (natsD (wayF f i)).length := hn
      rw [natsD_len] at hn
      have hx : (wayF f i)[n]? = some (wayF f i)[n] := List.getElem?_eq_getElem hn
      rw [nats_at hx] at hd
      cases hd
      generalize (wayF f i)[n] = p at hx
      have hpl := way_lt ok hi (List.mem_of_getElem? hx)
      refine ⟨⟨rfl, flat_nats _⟩, fun h => ?_, fun h => ?_⟩
      · have h : (!(natsD (wayF f j)).any fun y => PyData.eqv y.py (D.int (p : Int)).py) = true := h
        rw [eqv_any] at h
        have h : (wayF f j).contains p = false := by simpa using h
        have hz : (natsD (sizesF f))[p]? = some (.int (((sizesF f).getD p 0 : Nat) : Int)) := nats_at (getD_at (by unfold sizesF; rw [List.length_map, List.length_range]; exact hpl))
        refine ⟨_, atI_nat hz, ?_, dnD_in hx h, rfl⟩
        have := dnD_len (f := f) (a := wayF f i) (b := wayF f j) (n := n)
        omega
      · have h : (!(natsD (wayF f j)).any fun y => PyData.eqv y.py (D.int (p : Int)).py) = false := h
        rw [eqv_any] at h
        have h : (wayF f j).contains p = true := by simpa using h
        exact ⟨dnD_out hx h, rfl⟩
    · rintro acc ρ' ⟨rfl, rfl⟩
      -- yours
      refine ⟨fun n acc ρ' => acc = dnD f (wayF f j) (wayF f i) n ∧ ρ' = [.sh (fieldD f), .sh (.int i), .sh (.int j), .ow true (natsD (sizesF f)), .ow true (dnD f (wayF f i) (wayF f j) (natsD (wayF f i)).length), .no, .sh (.lst (natsD (wayF f i))), .sh (.lst (natsD (wayF f j))), .no], ⟨rfl, rfl⟩, ?_, ?_⟩
      · rintro n d acc ρ' hn hd ⟨rfl, rfl⟩
        have hd : (natsD (wayF f j))[n]? = some d := hd
        have hn : n < (natsD (wayF f j)).length := hn
        rw [natsD_len] at hn
        have hx : (wayF f j)[n]? = some (wayF f j)[n] := List.getElem?_eq_getElem hn
        rw [nats_at hx] at hd
        cases hd
        generalize (wayF f j)[n] = p at hx
        have hpl := way_lt ok hj (List.mem_of_getElem? hx)
        refine ⟨⟨rfl, flat_nats _⟩, fun h => ?_, fun h => ?_⟩
        · have h : (!(natsD (wayF f i)).any fun y => PyData.eqv y.py (D.int (p : Int)).py) = true := h
          rw [eqv_any] at h
          have h : (wayF f i).contains p = false := by simpa using h
          have hz : (natsD (sizesF f))[p]? = some (.int (((sizesF f).getD p 0 : Nat) : Int)) := nats_at (getD_at (by unfold sizesF; rw [List.length_map, List.length_range]; exact hpl))
          refine ⟨_, atI_nat hz, ?_, dnD_in hx h, rfl⟩
          have := dnD_len (f := f) (a := wayF f j) (b := wayF f i) (n := n)
          omega
        · have h : (!(natsD (wayF f i)).any fun y => PyData.eqv y.py (D.int (p : Int)).py) = false := h
          rw [eqv_any] at h
          have h : (wayF f i).contains p = true := by simpa using h
          exact ⟨dnD_out hx h, rfl⟩
      · rintro acc ρ' ⟨rfl, rfl⟩
        refine ⟨downF f i j, downF f j i, ?_, ?_, ?_, hp, fun post => kv k (by unfold shareF; rw [if_neg (by rw [hr]; exact Bool.false_ne_true)])⟩
        · show [Sl.sh (.tup (dnD f (wayF f i) (wayF f j) (natsD (wayF f i)).length).reverse), Sl.sh (.tup (dnD f (wayF f j) (wayF f i) (natsD (wayF f j)).length).reverse)] = _
          unfold dnD
          rw [natsD_len, natsD_len, List.take_length, List.take_length, down_rev, down_rev]
        · have := down_len ok hi hj
          exact ⟨by have := ok.hi; omega, fun x hx => (down_mem ok hi hx).1, fun x hx => (down_mem ok hi hx).2⟩
        · have := down_len ok hi hj
          exact ⟨by have := ok.hi; omega, fun x hx => (down_mem ok hj hx).1, fun x hx => (down_mem ok hj hx).2⟩
end KB
namespace KB
open PySem PySem.Spec PyProof.Rows L2 DL
/-! ### draws -/
theorem log_lt {i : Int} {k : Nat} (h0 : 0 ≤ i) (h : i < (2 : Int) ^ k) (hk : 0 < k) : i.natAbs.log2 < k := by
  obtain ⟨n, rfl⟩ := Int.eq_ofNat_of_zero_le h0
  rw [Int.natAbs_natCast]
  refine Lt2.log ⟨?_⟩ hk
  have : ((n : Nat) : Int) < ((2 ^ k : Nat) : Int) := by rw [Int.natCast_pow]; exact h
  exact Int.ofNat_lt.mp this
theorem cmul {i j : Int} (h1 : 0 ≤ i) (h2 : i < (2 : Int) ^ 200) (h3 : 0 ≤ j) (h4 : j < (2 : Int) ^ 200) : CMulD i j := by
  have a := log_lt h1 h2 (by decide)
  have b := log_lt h3 h4 (by decide)
  unfold CMulD
  omega
theorem cdiv {i j : Int} (h1 : 0 < j) (h2 : j < (2 : Int) ^ 200) : CDivD i j := by
  have a := log_lt (Int.le_of_lt h1) h2 (by decide)
  exact ⟨h1, by omega⟩
def sp_well : DSp := fun as Rr => ∃ cell turn : Int, as = [.sh (.int cell), .sh (.int turn)] ∧ 0 ≤ turn ∧ turn ≤ 100000 ∧ ∀ xs post, isBag 100000 (.lst xs) → Rr (.new xs) post
theorem law__well (as : List Sl) (Rr : Res → List Sl → Prop) (h : sp_well as Rr) : t__law_well (fun er ρ => Rr (.er er) (outs as ρ)) (bodyEd as Rr) (as ++ List.replicate 0 .no) := by
  obtain ⟨cell, turn, rfl, h0, h1, k⟩ := h
  have m0 : 0 ≤ cell % 2305843009213693951 := Int.emod_nonneg _ (by decide)
  have m1 : cell % 2305843009213693951 < 2305843009213693951 := Int.emod_lt_of_pos _ (by decide)
  have pw : CPow 10 18 := ⟨by decide, by decide, by decide⟩
  refine ⟨pw, fun h => ⟨pw, trivial, (by decide : (0 : Int) < 2305843009213693951), k _ _ ⟨_, _, _, rfl, ?_, m0, m1, h0, h1⟩⟩, fun h => ⟨(by decide : (0 : Int) < 2305843009213693951), k _ _ ⟨_, _, _, rfl, Int.le_refl _, m0, m1, h0, h1⟩⟩⟩
  have h : (10 : Int) ^ (18 : Int).toNat ≤ cell := of_decide_eq_true h
  show 0 ≤ cell - (10 : Int) ^ (18 : Int).toNat
  omega
def sp_take : DSp := fun as Rr => ∃ (n : Nat) (m : Int), as = [.bg false n, .sh (.int m)] ∧ 0 < m ∧ m ≤ 10000000000000000000000000000000000000000 ∧ n ≤ 10000000000 ∧ ∀ (r : Int) (n' : Nat), 0 ≤ r → r < m → n' ≤ n + 1 → Rr (.val (.int r)) [.bg false n', .no]
theorem law__take (as : List Sl) (Rr : Res → List Sl → Prop) (h : sp_take as Rr) : t__law_take (fun er ρ => Rr (.er er) (outs as ρ)) (bodyEd as Rr) (as ++ List.replicate 3 .no) := by
  obtain ⟨n, m, rfl, hm0, hm1, hn, k⟩ := h
  refine ⟨false, n, rfl, fun a b c ⟨a0, b0, b1, c0, c1⟩ => ?_⟩
  have md : ∀ x : Int, 0 ≤ x % m ∧ x % m < m := fun x => ⟨Int.emod_nonneg _ (by omega), Int.emod_lt_of_pos _ hm0⟩
  have big : (10000000000000000000000000000000000000000 : Int) < 2 ^ 200 := by decide
  refine ⟨_, rfl, fun h => ⟨_, rfl, hm0, _, rfl, cdiv hm0 (by omega), rfl, _, rfl, ?_⟩, fun h => ?_⟩
  · refine ⟨false, a / m, b, c, n, rfl, ⟨Int.ediv_nonneg a0 (by omega), b0, b1, c0, c1⟩, k _ _ (md a).1 (md a).2 (Nat.le_succ n)⟩
  · have p0 : (0 : Int) < 2305843009213693951 := by decide
    have pd : ∀ x : Int, 0 ≤ x % 2305843009213693951 ∧ x % 2305843009213693951 < 2305843009213693951 := fun x => ⟨Int.emod_nonneg _ (by decide), Int.emod_lt_of_pos _ p0⟩
    have c2 : c + 1 ≤ 10000000001 := by omega
    have e40 : (10000000001 : Int) < 2 ^ 40 := by decide
    have e61 : (2305843009213693951 : Int) < 2 ^ 61 := by decide
    have l200 : ∀ x : Int, x < 2305843009213693951 → x < 2 ^ 200 := fun x hx => Int.lt_trans hx (by decide)
    have m1 : CMulD 1000003 (c + 1) := cmul (by decide) (by decide) (by omega) (Int.lt_of_le_of_lt c2 (by decide))
    have w1 : CPow (c + 1) 2 := ⟨by decide, by decide, by
      have : (10000000001 : Int) < 2 ^ 64 := by decide
      have e : (2 : Nat) ^ 64 = 18446744073709551616 := by decide
      omega⟩
    have sq : (c + 1) ^ (2 : Int).toNat = (c + 1) * (c + 1) := by
      show (c + 1) ^ 2 = _
      rw [Int.pow_succ, Int.pow_succ, Int.pow_zero, Int.one_mul]
    have sq0 : 0 ≤ (c + 1) ^ (2 : Int).toNat := by rw [sq]; exact Int.mul_nonneg (by omega) (by omega)
    have sq1 : (c + 1) ^ (2 : Int).toNat < 2 ^ 200 := by
      rw [sq]
      have : (c + 1) * (c + 1) ≤ 10000000001 * 10000000001 := Int.mul_le_mul c2 c2 (by omega) (by decide)
      exact Int.lt_of_le_of_lt this (by decide)
    have m3 : CMulD 7919 ((c + 1) ^ (2 : Int).toNat) := cmul (by decide) (by decide) sq0 sq1
    obtain ⟨n0, n1⟩ := pd (b + 1000003 * (c + 1))
    have m2 : CMulD ((b + 1000003 * (c + 1)) % 2305843009213693951) ((b + 1000003 * (c + 1)) % 2305843009213693951) := cmul n0 (l200 _ n1) n0 (l200 _ n1)
    obtain ⟨z0, z1⟩ := pd ((b + 1000003 * (c + 1)) % 2305843009213693951 * ((b + 1000003 * (c + 1)) % 2305843009213693951) + 7919 * (c + 1) ^ (2 : Int).toNat + 5)
    have w2 : CPow (((b + 1000003 * (c + 1)) % 2305843009213693951 * ((b + 1000003 * (c + 1)) % 2305843009213693951) + 7919 * (c + 1) ^ (2 : Int).toNat + 5) % 2305843009213693951) 3 := ⟨by decide, by decide, by
      have e : (2 : Nat) ^ 64 = 18446744073709551616 := by decide
      omega⟩
    refine ⟨_, rfl, rfl, _, rfl, _, rfl, _, rfl, m1, p0, m2, _, rfl, w1, m3, p0, w2, p0, cdiv (by decide) (by decide), hm0, ?_⟩
    exact ⟨false, a, b, c + 1, n + 1, rfl, ⟨a0, b0, b1, by omega, by omega⟩, k _ _ (md _).1 (md _).2 (Nat.le_refl _)⟩
def sp_bagsD : DSp := fun as Rr => ∃ (ns : List Int) (m : Int), as = [.scr ns, .sh (.int m)] ∧ 0 ≤ m ∧ m ≤ 100 ∧ ∀ xs post, (∀ x ∈ xs, isBag 100000 x) → xs.length ≤ 101 → Rr (.new xs) post
theorem law__bags (as : List Sl) (Rr : Res → List Sl → Prop) (h : spBags as Rr) : t__law_bags sp_well (fun er ρ => Rr (.er er) (outs as ρ)) (bodyEd as Rr) (as ++ List.replicate 2 .no) := by
  obtain ⟨ns, m, rfl, h0, h1, k⟩ := h
  have hcut : (DL.cutD (ns.map D.int) none (some m)).length ≤ 100 := by
    unfold DL.cutD
    rw [List.length_take]
    have : HT.sIx (ns.map D.int).length (ns.map D.int).length (some m) ≤ m.toNat := by
      show (if m < 0 then (m + ((ns.map D.int).length : Int)).toNat else min m.toNat (ns.map D.int).length) ≤ m.toNat
      rw [if_neg (by omega)]
      exact Nat.min_le_left _ _
    omega
  have hint : ∀ d ∈ DL.cutD (ns.map D.int) none (some m) ++ [.int 0], ∃ i : Int, d = .int i := fun d hd => by
    rcases List.mem_append.mp hd with hd | hd
    · unfold DL.cutD at hd
      have hd := List.mem_of_mem_drop (List.mem_of_mem_take hd)
      obtain ⟨i, _, rfl⟩ := List.mem_map.mp hd
      exact ⟨i, rfl⟩
    · simp at hd; exact ⟨0, hd⟩
  refine ⟨by show (DL.cutD (ns.map D.int) none (some m)).length + 1 ≤ _; omega, ?_⟩
  show ∃ I : Nat → List D → List Sl → Prop, _
  generalize hcs : DL.cutD (ns.map D.int) none (some m) ++ [D.int 0] = cs at hint
  have hlen : cs.length ≤ 101 := by rw [← hcs, List.length_append]; simp; omega
  refine ⟨fun i acc ρ' => acc.length ≤ i ∧ (∀ x ∈ acc, isBag 100000 x) ∧ ρ' = [.scr ns, .sh (.int m), .no, .no], ⟨Nat.le_refl _, fun x hx => (by cases hx), rfl⟩, ?_, ?_⟩
  · rintro i d acc ρ' hi ⟨x, hx, rfl⟩ ⟨hl, hb, rfl⟩
    have hi : i < cs.length := hi
    have hx : cs[i]? = some x := hx
    obtain ⟨z, rfl⟩ := hint x (List.mem_of_getElem? hx)
    have m1 : CMulD 977 (i : Int) := cmul (by decide) (by decide) (by omega) (Int.lt_of_le_of_lt (show (i : Int) ≤ 101 by omega) (by decide))
    refine ⟨rfl, rfl, fun _ => ⟨m1, z, 977 * (i : Int), rfl, by omega, by omega, fun xs post hbag => ⟨by omega, ?_, ?_, rfl⟩⟩, fun z => (by cases z)⟩
    · rw [List.length_append]; simp; omega
    · intro y hy
      rcases List.mem_append.mp hy with hy | hy
      · exact hb y hy
      · simp at hy; rw [hy]; exact hbag
  · rintro acc ρ' ⟨hl, hb, rfl⟩
    have hl : acc.length ≤ cs.length := hl
    exact k _ _ hb (by omega)

/-! ### _law_way, _law_sizes, _law_reduced, _law_sum, _law_ways -/
theorem law__way (as : List Sl) (Rr : Res → List Sl → Prop) (h : sp_wayA as Rr) : t__law_way (fun er ρ => Rr (.er er) (outs as ρ)) (bodyEd as Rr) (as ++ List.replicate 1 .no) := by
  obtain ⟨f, i, rfl, ok, hi, k⟩ := h
  have hwl : ∀ j, (wayF f j).length ≤ 61 := fun j => by have := wayN_length (f := f) (n := f.length) (i := j); have := ok.hi; unfold wayF; omega
  refine ⟨fun m ρ => ∃ (pre : List Nat) (j : Nat), ρ = [.sh (fieldD f), .sh (.int i), .ow true (natsD (pre ++ [j]))] ∧ pre ++ wayF f j = wayF f i ∧ j < f.length ∧ m = (wayF f j).length, ⟨_, [], i, rfl, rfl, hi, rfl⟩, ?_⟩
  rintro m ρ ⟨pre, j, rfl, hw, hj, rfl⟩
  have hf : f[j]? = some f[j] := List.getElem?_eq_getElem hj
  have hlast : atI (natsD (pre ++ [j])) (-1) = some (.int (j : Int)) := by
    refine atI_neg (i := 0) (by simp) ?_
    unfold natsD
    rw [List.map_append, List.reverse_append]
    rfl
  refine ⟨_, hlast, _, field_at hf, ?_⟩
  cases hv : f[j] with
  | none =>
    rw [hv] at hf
    refine ⟨fun z => (by cases z), fun _ => kn k ?_⟩
    rw [← hw, wayF_none hf]
  | some p =>
    rw [hv] at hf
    have hp := ok.lt j p hf
    have hl : (natsD (pre ++ [j])).length < 16777216 := by
      rw [natsD_len, List.length_append]
      have := congrArg List.length hw
      rw [List.length_append] at this
      have := hwl i
      simp only [List.length_cons, List.length_nil]
      omega
    refine ⟨fun _ => ⟨rfl, _, hlast, _, field_at hf, hl, (wayF f p).length, ?_, pre ++ [j], p, ?_, ?_, hp, rfl⟩, fun z => (by cases z)⟩
    · rw [wayF_some ok hf]; simp
    · show [Sl.sh (fieldD f), .sh (.int i), .ow true (natsD (pre ++ [j]) ++ [D.int (p : Int)])] = _
      unfold natsD
      rw [List.map_append (l₁ := pre ++ [j])]
      rfl
    · rw [← hw, wayF_some ok hf]; simp
theorem law__reduced (as : List Sl) (Rr : Res → List Sl → Prop) (h : sp_reduced as Rr) : t__law_reduced (fun er ρ => Rr (.er er) (outs as ρ)) (bodyEd as Rr) (as ++ List.replicate 2 .no) := by
  obtain ⟨a, b, rfl, hb, hl, k⟩ := h
  refine ⟨fun m ρ => ∃ x y : Nat, ρ = [.sh (.int a), .sh (.int b), .sh (.int x), .sh (.int y)] ∧ y = m ∧ Nat.gcd x y = Nat.gcd a b, ⟨b, a, b, rfl, rfl, rfl⟩, ?_⟩
  rintro m ρ ⟨x, y, rfl, rfl, hg⟩
  refine ⟨fun h => ?_, fun h => ?_⟩
  · have hy : ¬ ((y : Int) = 0) := by simpa using h
    refine ⟨by omega, x % y, Nat.mod_lt _ (by omega), y, x % y, ?_, rfl, ?_⟩
    · show [Sl.sh (.int a), Sl.sh (.int b), Sl.sh (.int y), Sl.sh (.int ((x : Int) % (y : Int)))] = _
      rw [Int.natCast_emod]
    · rw [← hg, Nat.gcd_comm x y, Nat.gcd_rec y x, Nat.gcd_comm]
  · have hy : (y : Int) = 0 := by simpa using h
    have hy : y = 0 := by omega
    subst hy
    have hx : x = Nat.gcd a b := by rw [← hg]; simp
    subst hx
    obtain ⟨c1, c2⟩ := div_gcd (a := a) hb hl
    refine ⟨c1, c2, kv k ?_⟩
    show frD (redF a b) = .tup [.int ((a : Int) / ((Nat.gcd a b : Nat) : Int)), .int ((b : Int) / ((Nat.gcd a b : Nat) : Int))]
    unfold frD redF
    simp only
    rw [Int.natCast_ediv, Int.natCast_ediv]
/-- what a sum of sizes has come to: for the first t players, each one's way -/
def cntF (f : List (Option Nat)) (t p : Nat) : Nat := ((List.range t).filter fun o => (wayF f o).contains p).length
theorem cnt_succ (f : List (Option Nat)) {t : Nat} (p : Nat) (nd : (wayF f t).Nodup) : cntF f (t + 1) p = cntF f t p + (wayF f t).count p := by
  unfold cntF
  rw [List.range_succ, List.filter_append, List.length_append]
  congr 1
  by_cases h : p ∈ wayF f t
  · have h' : (wayF f t).contains p = true := by simpa using h
    rw [List.filter_cons, if_pos h', nd.count, if_pos h]; rfl
  · have h' : ¬ (wayF f t).contains p = true := by simpa using h
    rw [List.filter_cons, if_neg h', nd.count, if_neg h]; rfl
/-- the counts, n of t's way gone -/
def cnL (f : List (Option Nat)) (t n : Nat) : List Nat := (List.range f.length).map fun p => cntF f t p + ((wayF f t).take n).count p
theorem cnL_at {f : List (Option Nat)} {t n q : Nat} (hq : q < f.length) : (cnL f t n)[q]? = some (cntF f t q + ((wayF f t).take n).count q) := by
  unfold cnL
  rw [List.getElem?_map, List.getElem?_range hq]
  rfl
theorem cnL_len (f : List (Option Nat)) (t n : Nat) : (cnL f t n).length = f.length := by
  unfold cnL
  rw [List.length_map, List.length_range]
theorem cnL_set {f : List (Option Nat)} {t n q : Nat} (hx : (wayF f t)[n]? = some q) : (cnL f t n).set q (cntF f t q + ((wayF f t).take n).count q + 1) = cnL f t (n + 1) := by
  apply List.ext_getElem?
  intro i
  by_cases hi : i < f.length
  · rw [cnL_at hi, List.take_add_one, hx, List.count_append]
    by_cases e : q = i
    · subst e
      rw [List.getElem?_set_self (by rw [cnL_len]; exact hi)]
      simp
      omega
    · rw [List.getElem?_set_ne e, cnL_at hi]
      simp [List.count_singleton, e]
  · rw [List.getElem?_eq_none (by rw [List.length_set, cnL_len]; omega), List.getElem?_eq_none (by rw [cnL_len]; omega)]
theorem nats_set (l : List Nat) (q x : Nat) : (natsD l).set q (.int (x : Int)) = natsD (l.set q x) := by
  unfold natsD
  rw [List.map_set]
theorem law__sizes (as : List Sl) (Rr : Res → List Sl → Prop) (h : sp_sizes_of as Rr) : t__law_sizes_2 sp_wayA (fun er ρ => Rr (.er er) (outs as ρ)) (bodyEd as Rr) (as ++ List.replicate 3 .no) := by
  obtain ⟨f, rfl, ok, k⟩ := h
  have hm : (f.map optD).length = f.length := List.length_map _
  have hm2 : (((f.map optD).length : Nat) : Int).toNat = f.length := by rw [hm]; omega
  have hl := ok.hi
  -- all counts, and how far the way of t is gone
  refine ⟨⟨by rw [hm]; omega, by rw [hm]; omega, by show 1 * (((f.map optD).length : Nat) : Int).toNat ≤ _; omega⟩, ⟨by rw [hm]; omega, by rw [hm]; omega⟩,
    fun t ρ => ∃ s2 s3, ρ = [.sh (fieldD f), .ow true (natsD ((List.range f.length).map fun p => cntF f t p)), s2, s3], ⟨.no, .no, ?_⟩, ?_, ?_⟩
  · show [Sl.sh (fieldD f), Sl.ow true (List.replicate (((f.map optD).length : Nat) : Int).toNat [D.int 0]).flatten, .no, .no] = _
    rw [hm2, List.flatten_replicate_singleton]
    unfold natsD cntF
    rw [List.map_map]
    congr 2
    congr 1
    simp [Function.comp_def, List.map_const']
  · rintro t d ρ ht rfl ⟨s2, s3, rfl⟩
    have ht : t < (((f.map optD).length : Nat) : Int).toNat := ht
    rw [hm2] at ht
    refine ⟨f, t, by show [Sl.sh (fieldD f), .sh (.int (0 + (t : Int)))] = _; rw [Int.zero_add], ok, ht, fun _ => ?_⟩
    have nd := way_nodup ok t ht
    have c0 : (List.range f.length).map (fun p => cntF f t p) = cnL f t 0 := by unfold cnL; simp
    rw [c0]
    refine ⟨fun n ρ => ∃ s3, ρ = [.sh (fieldD f), .ow true (natsD (cnL f t n)), .sh (.int (0 + (t : Int))), s3], ⟨s3, rfl⟩, ?_, ?_⟩
    · rintro n d ρ hn hd ⟨s3, rfl⟩
      have hd : (natsD (wayF f t))[n]? = some d := hd
      have hn : n < (natsD (wayF f t)).length := hn
      rw [natsD_len] at hn
      have hx : (wayF f t)[n]? = some (wayF f t)[n] := List.getElem?_eq_getElem hn
      rw [nats_at hx] at hd
      cases hd
      generalize (wayF f t)[n] = q at hx
      have hql := way_lt ok ht (List.mem_of_getElem? hx)
      refine ⟨_, atI_nat (nats_at (cnL_at hql)), rfl, q, ?_, .sh (.int (q : Int)), ?_⟩
      · show ixN (natsD (cnL f t n)).length (q : Int) = some q
        rw [natsD_len, cnL_len]
        unfold ixN
        rw [if_pos (by omega), if_pos (by omega)]
        simp
      · rw [← cnL_set hx, ← nats_set]
        rfl
    · rintro ρ ⟨s3, rfl⟩
      refine ⟨.sh (.int (0 + (t : Int))), s3, ?_⟩
      show [Sl.sh (fieldD f), Sl.ow true (natsD (cnL f t (natsD (wayF f t)).length)), _, _] = _
      rw [natsD_len]
      have e : cnL f t (wayF f t).length = (List.range f.length).map fun p => cntF f (t + 1) p := by
        unfold cnL
        rw [List.take_length]
        exact List.map_congr_left fun p _ => (cnt_succ f p nd).symm
      rw [e]
  · rintro ρ ⟨s2, s3, rfl⟩
    refine kn k ?_
    show _ = natsD ((List.range f.length).map fun p => cntF f (((f.map optD).length : Nat) : Int).toNat p)
    rw [hm2]
    rfl
end KB
namespace KB
open PySem PySem.Spec PyProof.Rows L2 DL
def sp_sum : DSp := fun as Rr => ∃ p q : Nat × Nat, as = [.sh (frD p), .sh (frD q)] ∧ 0 < p.2 ∧ 0 < q.2 ∧ p.1 ≤ p.2 ∧ q.1 ≤ q.2 ∧ Lt2 p.2 4400 ∧ Lt2 q.2 4400 ∧ ∀ post, Rr (.val (frD (redF (p.1 * q.2 + q.1 * p.2) (p.2 * q.2)))) post
theorem law__sum (as : List Sl) (Rr : Res → List Sl → Prop) (h : sp_sum as Rr) : t__law_sum sp_reduced (fun er ρ => Rr (.er er) (outs as ρ)) (bodyEd as Rr) (as ++ List.replicate 0 .no) := by
  obtain ⟨⟨p, q⟩, ⟨r, s⟩, rfl, h1, h2, h3, h4, l1, l2, k⟩ := h
  simp only at h1 h2 h3 h4 l1 l2 k
  have t1 := l1.le h3
  have t2 := l2.le h4
  refine ⟨_, rfl, _, rfl, log_mul rfl rfl t1 l2 (by omega), _, rfl, _, rfl, log_mul rfl rfl t2 l1 (by omega), _, rfl, _, rfl, log_mul rfl rfl l1 l2 (by omega), p * s + r * q, q * s, ?_, Nat.mul_pos h1 h2, (l1.mul l2).mono (by omega), fun post => k _⟩
  simp only [Int.natCast_add, Int.natCast_mul]
  rfl
def sp_ways : DSp := fun as Rr => ∃ (f : List (Option Nat)) (i j : Nat), as = [.sh (fieldD f), .sh (.int i), .sh (.int j)] ∧ FieldOk f ∧ i < f.length ∧ j < f.length ∧ ∀ post, Rr (.val (.tup [.tup (natsD (downF f i j)), .tup (natsD (downF f j i))])) post
theorem law__ways (as : List Sl) (Rr : Res → List Sl → Prop) (h : sp_ways as Rr) : t__law_ways_2 sp_wayA sp_sizes_of (fun er ρ => Rr (.er er) (outs as ρ)) (bodyEd as Rr) (as ++ List.replicate 6 .no) := by
  obtain ⟨f, i, j, rfl, ok, hi, hj, k⟩ := h
  refine ⟨f, rfl, ok, fun _ => ⟨f, i, rfl, ok, hi, fun _ => ⟨f, j, rfl, ok, hj, fun _ => ⟨rfl, rfl, ?_⟩⟩⟩⟩
  have li : (wayF f i).length ≤ 61 := by have := wayN_length (f := f) (n := f.length) (i := i); have := ok.hi; unfold wayF; omega
  have lj : (wayF f j).length ≤ 61 := by have := wayN_length (f := f) (n := f.length) (i := j); have := ok.hi; unfold wayF; omega
  refine ⟨fun n acc ρ' => acc = dnD f (wayF f i) (wayF f j) n ∧ ρ' = [.sh (fieldD f), .sh (.int i), .sh (.int j), .no, .no, .sh (.lst (natsD (sizesF f))), .sh (.lst (natsD (wayF f i))), .sh (.lst (natsD (wayF f j))), .no], ⟨rfl, rfl⟩, ?_, ?_⟩
  · rintro n d acc ρ' hn hd ⟨rfl, rfl⟩
    have hd : (natsD (wayF f i))[n]? = some d := hd
    have hn : n < (natsD (wayF f i)).length := hn
    rw [natsD_len] at hn
    have hx : (wayF f i)[n]? = some (wayF f i)[n] := List.getElem?_eq_getElem hn
    rw [nats_at hx] at hd
    cases hd
    generalize (wayF f i)[n] = p at hx
    have hpl := way_lt ok hi (List.mem_of_getElem? hx)
    refine ⟨⟨rfl, flat_nats _⟩, fun h => ?_, fun h => ?_⟩
    · have h : (!(natsD (wayF f j)).any fun y => PyData.eqv y.py (D.int (p : Int)).py) = true := h
      rw [eqv_any] at h
      have h : (wayF f j).contains p = false := by simpa using h
      have hz : (natsD (sizesF f))[p]? = some (.int (((sizesF f).getD p 0 : Nat) : Int)) := nats_at (getD_at (by unfold sizesF; rw [List.length_map, List.length_range]; exact hpl))
      refine ⟨_, atI_nat hz, ?_, dnD_in hx h, rfl⟩
      have := dnD_len (f := f) (a := wayF f i) (b := wayF f j) (n := n)
      omega
    · have h : (!(natsD (wayF f j)).any fun y => PyData.eqv y.py (D.int (p : Int)).py) = false := h
      rw [eqv_any] at h
      have h : (wayF f j).contains p = true := by simpa using h
      exact ⟨dnD_out hx h, rfl⟩
  · rintro acc ρ' ⟨rfl, rfl⟩
    refine ⟨fun n acc ρ' => acc = dnD f (wayF f j) (wayF f i) n ∧ ρ' = [.sh (fieldD f), .sh (.int i), .sh (.int j), .ow true (dnD f (wayF f i) (wayF f j) (natsD (wayF f i)).length), .no, .sh (.lst (natsD (sizesF f))), .sh (.lst (natsD (wayF f i))), .sh (.lst (natsD (wayF f j))), .no], ⟨rfl, rfl⟩, ?_, ?_⟩
    · rintro n d acc ρ' hn hd ⟨rfl, rfl⟩
      have hd : (natsD (wayF f j))[n]? = some d := hd
      have hn : n < (natsD (wayF f j)).length := hn
      rw [natsD_len] at hn
      have hx : (wayF f j)[n]? = some (wayF f j)[n] := List.getElem?_eq_getElem hn
      rw [nats_at hx] at hd
      cases hd
      generalize (wayF f j)[n] = p at hx
      have hpl := way_lt ok hj (List.mem_of_getElem? hx)
      refine ⟨⟨rfl, flat_nats _⟩, fun h => ?_, fun h => ?_⟩
      · have h : (!(natsD (wayF f i)).any fun y => PyData.eqv y.py (D.int (p : Int)).py) = true := h
        rw [eqv_any] at h
        have h : (wayF f i).contains p = false := by simpa using h
        have hz : (natsD (sizesF f))[p]? = some (.int (((sizesF f).getD p 0 : Nat) : Int)) := nats_at (getD_at (by unfold sizesF; rw [List.length_map, List.length_range]; exact hpl))
        refine ⟨_, atI_nat hz, ?_, dnD_in hx h, rfl⟩
        have := dnD_len (f := f) (a := wayF f j) (b := wayF f i) (n := n)
        omega
      · have h : (!(natsD (wayF f i)).any fun y => PyData.eqv y.py (D.int (p : Int)).py) = false := h
        rw [eqv_any] at h
        have h : (wayF f i).contains p = true := by simpa using h
        exact ⟨dnD_out hx h, rfl⟩
    · rintro acc ρ' ⟨rfl, rfl⟩
      refine kv k ?_
      show _ = D.tup [.tup (dnD f (wayF f i) (wayF f j) (natsD (wayF f i)).length).reverse, .tup (dnD f (wayF f j) (wayF f i) (natsD (wayF f j)).length).reverse]
      unfold dnD
      rw [natsD_len, natsD_len, List.take_length, List.take_length, down_rev, down_rev]
/-! ### _law_same, of one and the same -/
def okd : Nat → D → Prop
  | 0, _ => False
  | n + 1, .tup xs => xs.length ≤ 1000000 ∧ ∀ x ∈ xs, okd n x
  | n + 1, .lst xs => xs.length ≤ 1000000 ∧ ∀ x ∈ xs, okd n x
  | _ + 1, .tux _ _ => False
  | _ + 1, .dic _ _ => False
  | _ + 1, .dik _ _ => False
  | _ + 1, .obj _ _ _ => False
  | _ + 1, _ => True
def sp_same (n : Nat) : DSp := fun as Rr => ∃ d, as = [.sh d, .sh d] ∧ okd n d ∧ ∀ post, Rr (.val (.bl true)) post
theorem same_items {n : Nat} {xs : List D} {d : D} (hl : xs.length ≤ 1000000) (hx : ∀ x ∈ xs, okd n x) (Q : Rv → List Sl → Prop) (hq : ∀ r ρ, r = .val (.bl true) → Q r ρ) (hd : d = .tup xs ∨ d = .lst xs) :
    rCB allD (rCons (rLc [2, 3] (iZp (rCons (rVar 0) (rCons (rVar 1) rNil))) (gTp 2 (gCn (gNm 2) (gCn (gNm 3) gNl))) (fun ρ Q => Q true ρ) (rCall noR (sp_same n) (rCons (rVar 2) (rCons (rVar 3) rNil)))) rNil) [.sh d, .sh d, .no, .no] Q := by
  rcases hd with rfl | rfl
  all_goals
    refine ⟨fun i acc ρ' => acc = (List.replicate i true).map D.bl ∧ ρ' = [_, _, .no, .no], ⟨rfl, rfl⟩, ?_, ?_⟩
    · rintro i d acc ρ' hi ⟨x, y, h1, h2, rfl⟩ ⟨rfl, rfl⟩
      rw [h1] at h2
      cases h2
      have hi : i < min xs.length xs.length := hi
      refine ⟨rfl, rfl, fun _ => ⟨x, rfl, hx x (List.mem_of_getElem? h1), fun post => ⟨?_, ?_, rfl⟩⟩, fun z => (by cases z)⟩
      · rw [List.length_map, List.length_replicate]; omega
      · rw [List.replicate_succ', List.map_append]; rfl
    · rintro acc ρ' ⟨rfl, rfl⟩
      exact ⟨_, rfl, hq _ _ (by simp)⟩
theorem law__same {n : Nat} (as : List Sl) (Rr : Res → List Sl → Prop) (h : sp_same (n + 1) as Rr) : t__law_same (sp_same n) (fun er ρ => Rr (.er er) (outs as ρ)) (bodyEd as Rr) (as ++ List.replicate 2 .no) := by
  obtain ⟨d, rfl, ok, k⟩ := h
  have fin : ∀ (r : Rv) (ρ : List Sl), r = .val (.bl true) → (bodyEd [.sh d, .sh d] Rr).rt r ρ := fun r ρ e => by subst e; exact k _
  cases d with
  | tux _ _ => exact ok.elim
  | dic _ _ => exact ok.elim
  | dik _ _ => exact ok.elim
  | obj _ _ _ => exact ok.elim
  | tup xs => exact ⟨fun z => (by cases z), fun _ => ⟨fun z => (by cases z), fun _ => ⟨fun _ => ⟨fun _ => ⟨fun _ => same_items ok.1 ok.2 _ fin (.inl rfl), fun z => (by simp at z)⟩, fun z => (by cases z)⟩, fun z => (by cases z)⟩⟩⟩
  | lst xs => exact ⟨fun _ => ⟨fun _ => ⟨fun _ => ⟨fun _ => same_items ok.1 ok.2 _ fin (.inr rfl), fun z => (by simp at z)⟩, fun z => (by cases z)⟩, fun z => (by cases z)⟩, fun z => (by cases z)⟩
  | bl b =>
    repeat' first | refine ⟨?_, ?_⟩ | (intro z; cases z; done) | intro _
    all_goals exact kb k (by simp)
  | int b =>
    repeat' first | refine ⟨?_, ?_⟩ | (intro z; cases z; done) | intro _
    all_goals exact kb k (by simp)
  | str b =>
    repeat' first | refine ⟨?_, ?_⟩ | (intro z; cases z; done) | intro _
    all_goals exact kb k (by simp)
  | non =>
    repeat' first | refine ⟨?_, ?_⟩ | (intro z; cases z; done) | intro _
    all_goals exact kb k (by simp)
/-! ### the table of a race -/
def keyP (i j : Nat) : List Key := [.inl (i : Int), .inl (j : Int)]
/-- the table holds the cells for which p -/
def TabOk (a b : List Nat) (kvs : List (List Key × D)) (p : Nat → Nat → Prop) : Prop := ∀ i j, p i j → valG kvs (keyP i j) = some (frD (cellF a b i j))
theorem keyP_inj {i j i' j' : Nat} (h : keyP i j = keyP i' j') : i = i' ∧ j = j' := by
  unfold keyP at h
  simp at h
  omega
theorem tab_put {a b : List Nat} {kvs : List (List Key × D)} {p q : Nat → Nat → Prop} {i j : Nat} (h : TabOk a b kvs p) (hq : ∀ x y, q x y → p x y ∨ (x = i ∧ y = j)) : TabOk a b (putG kvs (keyP i j) (frD (cellF a b i j))) q := fun x y hxy => by
  rw [valG_put]
  by_cases e : keyP x y = keyP i j
  · obtain ⟨rfl, rfl⟩ := keyP_inj e
    rw [if_pos rfl]
  · rw [if_neg e]
    rcases hq x y hxy with z | ⟨rfl, rfl⟩
    · exact h x y z
    · exact absurd rfl e
def sp_lrace : DSp := fun as Rr => ∃ a b : List Nat, as = [.sh (.tup (natsD a)), .sh (.tup (natsD b))] ∧ RowOk a ∧ RowOk b ∧ CellOk a b ∧ ∀ post, Rr (.val (frD (raceF a b))) post
theorem law__race (as : List Sl) (Rr : Res → List Sl → Prop) (h : sp_lrace as Rr) : t__law_race sp_reduced (fun er ρ => Rr (.er er) (outs as ρ)) (bodyEd as Rr) (as ++ List.replicate 9 .no) := by
  obtain ⟨a, b, rfl, oa, ob, hab, k⟩ := h
  have la := oa.len
  have lb := ob.len
  have na := natsD_len a
  have nb := natsD_len b
  have alo : ∀ x ∈ a.reverse, 0 < x := fun x hx => oa.lo x (by simpa using hx)
  have ahi : ∀ x ∈ a.reverse, 0 < x ∧ x ≤ 60 := fun x hx => ⟨oa.lo x (by simpa using hx), oa.hi x (by simpa using hx)⟩
  have bhi : ∀ x ∈ b.reverse, x ≤ 60 := fun x hx => ob.hi x (by simpa using hx)
  have ra : a.reverse.length = a.length := List.length_reverse
  have rb : b.reverse.length = b.length := List.length_reverse
  refine ⟨⟨by rw [na]; omega, by rw [na]; omega⟩,
    fun i ρ => ∃ (kvs : List (List Key × D)) (s3 s4 s5 s6 s7 s8 s9 s10 : Sl), ρ = [.sh (.tup (natsD a)), .sh (.tup (natsD b)), .dt true kvs, s3, s4, s5, s6, s7, s8, s9, s10] ∧ TabOk a.reverse b.reverse kvs (fun x y => x < i ∧ y ≤ b.length) ∧ kvs.length ≤ i * (b.length + 1), ⟨[], .no, .no, .no, .no, .no, .no, .no, .no, rfl, fun x y h => absurd h.1 (by omega), Nat.zero_le _⟩, ?_, ?_⟩
  · rintro i d ρ hi rfl ⟨kvs, s3, s4, s5, s6, s7, s8, s9, s10, rfl, ht, hl⟩
    have hi : i < (((natsD a).length : Int) + 1).toNat := hi
    rw [na] at hi
    refine ⟨⟨by rw [nb]; omega, by rw [nb]; omega⟩,
      fun j ρ => ∃ (kvs : List (List Key × D)) (s4 s5 s6 s7 s8 s9 s10 : Sl), ρ = [.sh (.tup (natsD a)), .sh (.tup (natsD b)), .dt true kvs, .sh (.int (0 + (i : Int))), s4, s5, s6, s7, s8, s9, s10] ∧ TabOk a.reverse b.reverse kvs (fun x y => (x < i ∧ y ≤ b.length) ∨ (x = i ∧ y < j)) ∧ kvs.length ≤ i * (b.length + 1) + j, ⟨kvs, s4, s5, s6, s7, s8, s9, s10, rfl, fun x y h => ht x y (by omega), hl⟩, ?_, ?_⟩
    · rintro j d ρ hj rfl ⟨kvs, s4, s5, s6, s7, s8, s9, s10, rfl, ht, hl⟩
      have hj : j < (((natsD b).length : Int) + 1).toNat := hj
      rw [nb] at hj
      have hkl : kvs.length < 16777216 := by
        have : i * (b.length + 1) ≤ 61 * 61 := Nat.mul_le_mul (by omega) (by omega)
        omega
      have hkl2 : ∀ v, (putG kvs (keyP i j) v).length ≤ i * (b.length + 1) + (j + 1) := fun v => by
        have := putG_length kvs (keyP i j) v
        omega
      have zi : (0 : Int) + (i : Int) = (i : Int) := by omega
      have zj : (0 : Int) + (j : Int) = (j : Int) := by omega
      have kk : [Sum.inl ((0 : Int) + (i : Int)), Sum.inl ((0 : Int) + (j : Int))] = keyP i j := by rw [zi, zj]; rfl
      have tq : ∀ x y, ((x < i ∧ y ≤ b.length) ∨ (x = i ∧ y < j + 1)) → (((x < i ∧ y ≤ b.length) ∨ (x = i ∧ y < j)) ∨ (x = i ∧ y = j)) := fun x y h => by omega
      have put1 : ∀ c : Bool, c = decide ((0 : Int) + (i : Int) = 0) → (i = 0 ∨ j = 0) → D.tup [.int (if c = true then 1 else 0), .int 1] = frD (cellF a.reverse b.reverse i j) := fun c hc h => by
        cases i with
        | zero =>
          have : c = true := by rw [hc]; simp
          rw [cell0, this]; rfl
        | succ i =>
          have hj0 : j = 0 := by omega
          have : c = false := by rw [hc]; simp; omega
          rw [hj0, cell1, this]; rfl
      refine ⟨fun h1 => ⟨fun _ => ?_, fun z => (by cases z)⟩, fun h1 => ⟨fun h2 => ?_, fun h2 => ?_⟩⟩
      · have h1 : (0 : Int) + (i : Int) = 0 := of_decide_eq_true h1
        refine ⟨rfl, _, rfl, hkl, putG kvs (keyP i j) (frD (cellF a.reverse b.reverse i j)), .sh (.int (0 + (j : Int))), s5, s6, s7, s8, s9, s10, ?_, tab_put ht tq, hkl2 _⟩
        rw [← put1 _ rfl (.inl (by omega)), ← kk]
        rfl
      · have h2 : (0 : Int) + (j : Int) = 0 := of_decide_eq_true h2
        refine ⟨rfl, _, rfl, hkl, putG kvs (keyP i j) (frD (cellF a.reverse b.reverse i j)), .sh (.int (0 + (j : Int))), s5, s6, s7, s8, s9, s10, ?_, tab_put ht tq, hkl2 _⟩
        rw [← put1 _ rfl (.inr (by omega)), ← kk]
        rfl
      · have h1 : ¬ ((0 : Int) + (i : Int) = 0) := of_decide_eq_false h1
        have h2 : ¬ ((0 : Int) + (j : Int) = 0) := of_decide_eq_false h2
        obtain ⟨i, rfl⟩ : ∃ n, i = n + 1 := ⟨i - 1, by omega⟩
        obtain ⟨j, rfl⟩ : ∃ n, j = n + 1 := ⟨j - 1, by omega⟩
        have hx : a.reverse[i]? = some (a.reverse.getD i 0) := getD_at (by omega)
        have hy : b.reverse[j]? = some (b.reverse.getD j 0) := getD_at (by omega)
        have hx60 : a.reverse.getD i 0 ≤ 60 := (ahi _ (List.mem_of_getElem? hx)).2
        have hx0 : 0 < a.reverse.getD i 0 := (ahi _ (List.mem_of_getElem? hx)).1
        have hy60 : b.reverse.getD j 0 ≤ 60 := bhi _ (List.mem_of_getElem? hy)
        have hxa : a[a.length - (i + 1)]? = some (a.reverse.getD i 0) := by
          rw [List.getElem?_reverse (by omega)] at hx
          rw [show a.length - (i + 1) = a.length - 1 - i by omega]
          exact hx
        have hyb : b[b.length - (j + 1)]? = some (b.reverse.getD j 0) := by
          rw [List.getElem?_reverse (by omega)] at hy
          rw [show b.length - (j + 1) = b.length - 1 - j by omega]
          exact hy
        have ia : atI (natsD a) (((natsD a).length : Int) - (0 + ((i + 1 : Nat) : Int))) = some (.int (a.reverse.getD i 0 : Nat)) := by
          rw [na, show (a.length : Int) - (0 + ((i + 1 : Nat) : Int)) = ((a.length - (i + 1) : Nat) : Int) by omega]
          exact atI_nat (nats_at hxa)
        have ib : atI (natsD b) (((natsD b).length : Int) - (0 + ((j + 1 : Nat) : Int))) = some (.int (b.reverse.getD j 0 : Nat)) := by
          rw [nb, show (b.length : Int) - (0 + ((j + 1 : Nat) : Int)) = ((b.length - (j + 1) : Nat) : Int) by omega]
          exact atI_nat (nats_at hyb)
        obtain ⟨p1, p2, _⟩ := cell_ok (b := b.reverse) alo (i + (j + 1)) i (j + 1) rfl (by omega)
        obtain ⟨q1, q2, _⟩ := cell_ok (b := b.reverse) alo (i + 1 + j) (i + 1) j rfl (by omega)
        have b1 := hab i (j + 1) (by omega) (by omega)
        have b2 := hab (i + 1) j (by omega) (by omega)
        have tb1 : valG kvs [Sum.inl ((0 : Int) + ((i + 1 : Nat) : Int) - 1), Sum.inl ((0 : Int) + ((j + 1 : Nat) : Int))] = some (frD (cellF a.reverse b.reverse i (j + 1))) := by
          have := ht i (j + 1) (by omega)
          rw [show (0 : Int) + ((i + 1 : Nat) : Int) - 1 = (i : Int) by omega, zj]
          exact this
        have tb2 : valG kvs [Sum.inl ((0 : Int) + ((i + 1 : Nat) : Int)), Sum.inl ((0 : Int) + ((j + 1 : Nat) : Int) - 1)] = some (frD (cellF a.reverse b.reverse (i + 1) j)) := by
          have := ht (i + 1) j (by omega)
          rw [show (0 : Int) + ((j + 1 : Nat) : Int) - 1 = (j : Int) by omega, zi]
          exact this
        have tp := tab_put ht tq
        have hk2 := hkl2 (frD (cellF a.reverse b.reverse (i + 1) (j + 1)))
        have c3 := cell2 a.reverse b.reverse i j
        rw [c3] at tp hk2
        generalize cellF a.reverse b.reverse i (j + 1) = c1 at p1 p2 b1 tb1 tp hk2
        generalize cellF a.reverse b.reverse (i + 1) j = c2 at q1 q2 b2 tb2 tp hk2
        obtain ⟨p, q⟩ := c1
        obtain ⟨r, s⟩ := c2
        simp only at p1 p2 b1 q1 q2 b2 tp hk2
        generalize a.reverse.getD i 0 = x at hx60 hx0 ia tp hk2
        generalize b.reverse.getD j 0 = z at hy60 ib tp hk2
        have t1 : Lt2 p 4201 := b1.le p2
        have t2 : Lt2 r 4201 := b2.le q2
        have x7 : Lt2 x 7 := lt2_60 (by omega)
        have z7 : Lt2 z 7 := lt2_60 (by omega)
        have m1 : CMulD (x : Int) (p : Int) := log_mul rfl rfl x7 t1 (by omega)
        have m2 : CMulD ((x : Int) * (p : Int)) (s : Int) := log_mul (by rw [← Int.natCast_mul]) rfl (x7.mul t1) b2 (by omega)
        have m3 : CMulD (z : Int) (r : Int) := log_mul rfl rfl z7 t2 (by omega)
        have m4 : CMulD ((z : Int) * (r : Int)) (q : Int) := log_mul (by rw [← Int.natCast_mul]) rfl (z7.mul t2) b1 (by omega)
        have m5 : CMulD ((x : Int) + (z : Int)) (q : Int) := log_mul (a := x + z) (by omega) rfl (lt2_60 (by omega)) b1 (by omega)
        have m6 : CMulD (((x : Int) + (z : Int)) * (q : Int)) (s : Int) := log_mul (a := (x + z) * q) (by rw [Int.natCast_mul, Int.natCast_add]) rfl ((lt2_60 (a := x + z) (by omega)).mul b1) b2 (by omega)
        have hD : 0 < (x + z) * q * s := Nat.mul_pos (Nat.mul_pos (by omega) p1) q1
        have hL : Lt2 ((x + z) * q * s) 9000 := (((lt2_60 (a := x + z) (by omega)).mul b1).mul b2).mono (by omega)
        have ea : [Sl.sh (.int ((x : Int) * (p : Int) * (s : Int) + (z : Int) * (r : Int) * (q : Int))), Sl.sh (.int (((x : Int) + (z : Int)) * (q : Int) * (s : Int)))] = [Sl.sh (.int ((x * p * s + z * r * q : Nat) : Int)), Sl.sh (.int (((x + z) * q * s : Nat) : Int))] := by
          simp only [Int.natCast_add, Int.natCast_mul]
        refine ⟨trivial, _, ia, trivial, _, ib, rfl, trivial, _, rfl, _, tb1, rfl, trivial, _, rfl, _, tb2, rfl, rfl, rfl, rfl, rfl, rfl, m1, m2, m3, m4, m5, m6, _, _, ea, hD, hL, fun post => ⟨rfl, _, rfl, hkl, ?_⟩⟩
        refine ⟨putG kvs (keyP (i + 1) (j + 1)) (frD (redF (x * p * s + z * r * q) ((x + z) * q * s))), .sh (.int (0 + ((j + 1 : Nat) : Int))), .sh (.int (x : Int)), .sh (.int (z : Int)), .sh (.int (p : Int)), .sh (.int (q : Int)), .sh (.int (r : Int)), .sh (.int (s : Int)), ?_, tp, hk2⟩
        rw [← kk]
        rfl
    · rintro ρ ⟨kvs, s4, s5, s6, s7, s8, s9, s10, rfl, ht, hl⟩
      have e : (((natsD b).length : Int) + 1).toNat = b.length + 1 := by rw [nb]; omega
      refine ⟨kvs, _, s4, s5, s6, s7, s8, s9, s10, rfl, fun x y h => ht x y ?_, ?_⟩
      · show (x < i ∧ y ≤ b.length) ∨ (x = i ∧ y < (((natsD b).length : Int) + 1).toNat)
        rw [e]; omega
      · have hl : kvs.length ≤ i * (b.length + 1) + (((natsD b).length : Int) + 1).toNat := hl
        rw [e] at hl
        rw [Nat.add_mul, Nat.one_mul]
        exact hl
  · rintro ρ ⟨kvs, s3, s4, s5, s6, s7, s8, s9, s10, rfl, ht, hl⟩
    have e : (((natsD a).length : Int) + 1).toNat = a.length + 1 := by rw [na]; omega
    have ht : TabOk a.reverse b.reverse kvs (fun x y => x < (((natsD a).length : Int) + 1).toNat ∧ y ≤ b.length) := ht
    rw [e] at ht
    refine ⟨rfl, keyP a.length b.length, ?_, _, ht a.length b.length ⟨by omega, by omega⟩, k _⟩
    show some [Sum.inl ((natsD a).length : Int), Sum.inl ((natsD b).length : Int)] = _
    rw [na, nb]
    rfl
end KB
/-! orders of fields, counted by sizes -/
namespace DL
open PySem L2
/-! ### lists: sums, products, double counting -/
theorem len_filter {α : Type} (p : α → Bool) : ∀ l : List α, (l.filter p).length = (l.map fun a => if p a = true then 1 else 0).sum
  | [] => rfl
  | a :: l => by
    rw [List.filter_cons, List.map_cons, List.sum_cons, ← len_filter p l]
    by_cases h : p a = true
    · rw [if_pos h, if_pos h, List.length_cons, Nat.add_comm]
    · rw [if_neg h, if_neg h, Nat.zero_add]
theorem sum_add {α : Type} (g h : α → Nat) : ∀ l : List α, (l.map fun a => g a + h a).sum = (l.map g).sum + (l.map h).sum
  | [] => rfl
  | a :: l => by
    rw [List.map_cons, List.map_cons, List.map_cons, List.sum_cons, List.sum_cons, List.sum_cons, sum_add g h l]
    omega
theorem sum_mulr {α : Type} (g : α → Nat) (c : Nat) : ∀ l : List α, (l.map fun a => g a * c).sum = (l.map g).sum * c
  | [] => (Nat.zero_mul c).symm
  | a :: l => by rw [List.map_cons, List.map_cons, List.sum_cons, List.sum_cons, sum_mulr g c l, Nat.add_mul]
theorem sum_zero {α : Type} : ∀ l : List α, (l.map fun _ => 0).sum = 0
  | [] => rfl
  | a :: l => by rw [List.map_cons, List.sum_cons, sum_zero l]
theorem dcount {α β : Type} (r : α → β → Bool) (B : List β) : ∀ A : List α, (A.map fun a => (B.filter (r a)).length).sum = (B.map fun b => (A.filter fun a => r a b).length).sum
  | [] => (sum_zero B).symm
  | a :: A => by
    rw [List.map_cons, List.sum_cons, dcount r B A, len_filter, ← sum_add]
    congr 1
    refine List.map_congr_left fun b _ => ?_
    rw [List.filter_cons]
    by_cases h : r a b = true
    · rw [if_pos h, if_pos h, List.length_cons, Nat.add_comm]
    · rw [if_neg h, if_neg h, Nat.zero_add]
theorem sum_congr {α : Type} {g h : α → Nat} {l : List α} (e : ∀ a ∈ l, g a = h a) : (l.map g).sum = (l.map h).sum := by rw [List.map_congr_left e]
def prodL : List Nat → Nat
  | [] => 1
  | a :: l => a * prodL l
theorem prodL_perm {l m : List Nat} (h : l.Perm m) : prodL l = prodL m := by
  induction h with
  | nil => rfl
  | cons a _ ih => simp only [prodL, ih]
  | swap a b l => simp only [prodL]; grind
  | trans _ _ h1 h2 => rw [h1, h2]
theorem prodL_append (l m : List Nat) : prodL (l ++ m) = prodL l * prodL m := by
  induction l with
  | nil => simp [prodL]
  | cons a l ih => simp only [List.cons_append, prodL, ih, Nat.mul_assoc]
theorem prodL_pos {l : List Nat} (h : ∀ x ∈ l, 0 < x) : 0 < prodL l := by
  induction l with
  | nil => exact Nat.one_pos
  | cons a l ih => exact Nat.mul_pos (h a List.mem_cons_self) (ih fun x hx => h x (List.mem_cons_of_mem _ hx))
def fac : Nat → Nat
  | 0 => 1
  | n + 1 => (n + 1) * fac n
theorem fac_pos : ∀ n, 0 < fac n
  | 0 => Nat.one_pos
  | n + 1 => Nat.mul_pos (Nat.succ_pos n) (fac_pos n)
theorem nodup_perm {l m : List Nat} (h1 : l.Nodup) (h2 : m.Nodup) (h : ∀ a, a ∈ l ↔ a ∈ m) : l.Perm m := by
  induction l generalizing m with
  | nil =>
    cases m with
    | nil => exact .refl _
    | cons b m => exact absurd ((h b).mpr List.mem_cons_self) (by simp)
  | cons a l ih =>
    have ha : a ∈ m := (h a).mp List.mem_cons_self
    refine ((ih (List.nodup_cons.mp h1).2 (h2.erase a) fun b => ?_).cons a).trans (List.perm_cons_erase ha).symm
    rw [h2.mem_erase_iff]
    have h3 := (List.nodup_cons.mp h1).1
    have hb := h b
    rw [List.mem_cons] at hb
    constructor
    · intro hl
      exact ⟨fun e => h3 (e ▸ hl), hb.mp (.inr hl)⟩
    · rintro ⟨e, hm⟩
      exact (hb.mpr hm).resolve_left e
/-! ### who can come next -/
section
variable {f : List (Option Nat)} {S : List Nat} {p : Nat}
def okNext (f : List (Option Nat)) (S : List Nat) (p : Nat) : Bool := !S.contains p && (match f[p]? with
  | some none => true
  | some (some q) => S.contains q
  | none => false)
def nextF (f : List (Option Nat)) (S : List Nat) : List Nat := (List.range f.length).filter (okNext f S)
/-- placed: some players, each once, with each the one above -/
structure Up (f : List (Option Nat)) (S : List Nat) : Prop where
  nd : S.Nodup
  lt : ∀ p ∈ S, p < f.length
  cl : ∀ p ∈ S, ∀ q, f[p]? = some (some q) → q ∈ S
def sizeF (f : List (Option Nat)) (p : Nat) : Nat := (partF f p).length
theorem okNext_not (h : okNext f S p = true) : p ∉ S := by
  unfold okNext at h
  simp only [Bool.and_eq_true] at h
  intro hm
  have := h.1
  rw [List.contains_iff_mem.mpr hm] at this
  cases this
theorem okNext_lt (h : okNext f S p = true) : p < f.length := by
  unfold okNext at h
  simp only [Bool.and_eq_true] at h
  cases e : f[p]? with
  | none => rw [e] at h; cases h.2
  | some o => exact (List.getElem?_eq_some_iff.mp e).1
theorem mem_next : p ∈ nextF f S ↔ okNext f S p = true := by
  unfold nextF
  rw [List.mem_filter, List.mem_range]
  exact ⟨fun h => h.2, fun h => ⟨okNext_lt h, h⟩⟩
theorem okNext_above (h : okNext f S p = true) {q : Nat} (e : f[p]? = some (some q)) : q ∈ S := by
  unfold okNext at h
  simp only [Bool.and_eq_true] at h
  rw [e] at h
  exact List.contains_iff_mem.mp h.2
theorem Up.nil : Up f [] := ⟨List.nodup_nil, fun _ h => (by cases h), fun _ h => (by cases h)⟩
theorem Up.snoc (u : Up f S) (h : okNext f S p = true) : Up f (S ++ [p]) := by
  refine ⟨List.nodup_append.mpr ⟨u.nd, by simp, fun a ha b hb e => ?_⟩, fun a ha => ?_, fun a ha q e => ?_⟩
  · simp at hb
    subst hb e
    exact okNext_not h ha
  · rcases List.mem_append.mp ha with ha | ha
    · exact u.lt a ha
    · simp at ha
      rw [ha]; exact okNext_lt h
  · rcases List.mem_append.mp ha with ha | ha
    · exact List.mem_append_left _ (u.cl a ha q e)
    · simp at ha
      subst ha
      exact List.mem_append_left _ (okNext_above h e)
/-- on each way up there is one who can come next, if its player isn't placed, and none otherwise -/
theorem way_next (ok : FieldOk f) (u : Up f S) : ∀ o, o < f.length → ((wayF f o).filter (okNext f S)).length = if S.contains o = true then 0 else 1 := by
  refine up_ind ok (fun o e => ?_) fun o q e ih => ?_
  · rw [wayF_none e]
    by_cases h : S.contains o = true
    · have : okNext f S o = false := by unfold okNext; rw [h]; rfl
      rw [if_pos h, List.filter_cons, this]; rfl
    · have h' : S.contains o = false := by simpa using h
      have : okNext f S o = true := by unfold okNext; rw [h', e]; rfl
      rw [if_neg h, List.filter_cons, this]; rfl
  · rw [wayF_some ok e, List.filter_cons]
    by_cases h : S.contains o = true
    · have h1 : okNext f S o = false := by unfold okNext; rw [h]; rfl
      have hq := u.cl o (List.contains_iff_mem.mp h) q e
      rw [if_pos (List.contains_iff_mem.mpr hq)] at ih
      rw [if_pos h, if_neg (by rw [h1]; exact Bool.false_ne_true), ih]
    · have h' : S.contains o = false := by simpa using h
      rw [if_neg h]
      by_cases hq : S.contains q = true
      · have h1 : okNext f S o = true := by unfold okNext; rw [h', e]; simp only [hq]; rfl
        rw [if_pos hq] at ih
        rw [if_pos h1, List.length_cons, ih]
      · have hq' : S.contains q = false := by simpa using hq
        have h1 : okNext f S o = false := by unfold okNext; rw [h', e]; simp only [hq']; rfl
        rw [if_neg hq] at ih
        rw [if_neg (by rw [h1]; exact Bool.false_ne_true), ih]
def restL (f : List (Option Nat)) (S : List Nat) : List Nat := (List.range f.length).filter fun o => !S.contains o
theorem mem_rest : p ∈ restL f S ↔ p < f.length ∧ p ∉ S := by
  unfold restL
  rw [List.mem_filter, List.mem_range]
  simp
theorem rest_nodup : (restL f S).Nodup := List.nodup_range.sublist List.filter_sublist
theorem next_nodup : (nextF f S).Nodup := List.nodup_range.sublist List.filter_sublist
theorem rest_len (u : Up f S) : (restL f S).length + S.length = f.length := by
  have h1 : (S ++ restL f S).Perm (List.range f.length) := by
    refine nodup_perm (List.nodup_append.mpr ⟨u.nd, rest_nodup, fun a ha b hb e => ?_⟩) List.nodup_range fun a => ?_
    · subst e
      exact (mem_rest.mp hb).2 ha
    · rw [List.mem_append, List.mem_range, mem_rest]
      constructor
      · rintro (h | h)
        · exact u.lt a h
        · exact h.1
      · intro h
        by_cases hs : a ∈ S
        · exact .inl hs
        · exact .inr ⟨h, hs⟩
  have := h1.length_eq
  rw [List.length_append, List.length_range] at this
  omega
/-- the sizes of all who can come next are together all who aren't placed -/
theorem next_sizes (ok : FieldOk f) (u : Up f S) : ((nextF f S).map (sizeF f)).sum = (restL f S).length := by
  have e1 : ((nextF f S).map (sizeF f)).sum = ((List.range f.length).map fun o => ((nextF f S).filter fun p => (wayF f o).contains p).length).sum := by
    unfold sizeF partF
    exact dcount (fun p o => (wayF f o).contains p) (List.range f.length) (nextF f S)
  rw [e1]
  unfold restL
  rw [len_filter]
  refine sum_congr fun o ho => ?_
  have hol := List.mem_range.mp ho
  have hw := way_next ok u o hol
  have hp : ((nextF f S).filter fun p => (wayF f o).contains p).Perm ((wayF f o).filter (okNext f S)) := by
    refine nodup_perm (next_nodup.sublist List.filter_sublist) ((way_nodup ok o hol).sublist List.filter_sublist) fun a => ?_
    rw [List.mem_filter, List.mem_filter, mem_next, List.contains_iff_mem]
    exact And.comm
  rw [hp.length_eq, hw]
  by_cases h : S.contains o = true
  · rw [if_pos h, if_neg (by rw [h]; exact Bool.false_ne_true)]
  · have h' : S.contains o = false := by simpa using h
    rw [if_neg h, if_pos (by rw [h']; rfl)]
/-! ### all orders behind those placed -/
def extsN (f : List (Option Nat)) : Nat → List Nat → List (List Nat)
  | 0, _ => [[]]
  | k + 1, S => (nextF f S).flatMap fun p => (extsN f k (S ++ [p])).map (p :: ·)
def cntN (f : List (Option Nat)) (k : Nat) (S : List Nat) : Nat := (extsN f k S).length
theorem flat_len {α β : Type} (g : α → List β) : ∀ l : List α, (l.flatMap g).length = (l.map fun a => (g a).length).sum
  | [] => rfl
  | a :: l => by rw [List.flatMap_cons, List.length_append, flat_len g l, List.map_cons, List.sum_cons]
theorem cnt_succ {k : Nat} : cntN f (k + 1) S = ((nextF f S).map fun p => cntN f k (S ++ [p])).sum := by
  unfold cntN
  rw [show extsN f (k + 1) S = (nextF f S).flatMap fun p => (extsN f k (S ++ [p])).map (p :: ·) from rfl, flat_len]
  refine sum_congr fun p _ => ?_
  rw [List.length_map]
def restP (f : List (Option Nat)) (S : List Nat) : Nat := prodL ((restL f S).map (sizeF f))
theorem size_pos (ok : FieldOk f) (hp : p < f.length) : 0 < sizeF f p ∧ sizeF f p ≤ f.length := part_pos ok hp
theorem restP_pos (ok : FieldOk f) : 0 < restP f S := prodL_pos fun x hx => by
  obtain ⟨p, hp, rfl⟩ := List.mem_map.mp hx
  exact (size_pos ok (mem_rest.mp hp).1).1
theorem rest_snoc (h : okNext f S p = true) : (restL f S).Perm (p :: restL f (S ++ [p])) := by
  refine nodup_perm rest_nodup (List.nodup_cons.mpr ⟨fun hm => (mem_rest.mp hm).2 (by simp), rest_nodup⟩) fun a => ?_
  rw [List.mem_cons, mem_rest, mem_rest]
  constructor
  · rintro ⟨h1, h2⟩
    by_cases e : a = p
    · exact .inl e
    · exact .inr ⟨h1, fun hm => (List.mem_append.mp hm).elim h2 fun z => e (by simpa using z)⟩
  · rintro (rfl | ⟨h1, h2⟩)
    · exact ⟨okNext_lt h, okNext_not h⟩
    · exact ⟨h1, fun hm => h2 (List.mem_append_left _ hm)⟩
theorem restP_snoc (h : okNext f S p = true) : restP f S = sizeF f p * restP f (S ++ [p]) := by
  unfold restP
  rw [prodL_perm ((rest_snoc h).map (sizeF f))]
  rfl
/-- as many orders as the factorial, divided by all sizes -/
theorem hook (ok : FieldOk f) : ∀ (k : Nat) (S : List Nat), Up f S → k + S.length = f.length → cntN f k S * restP f S = fac k
  | 0, S, u, hl => by
    have h := rest_len u
    have : restL f S = [] := List.eq_nil_of_length_eq_zero (by omega)
    unfold restP
    rw [this]
    rfl
  | k + 1, S, u, hl => by
    rw [cnt_succ, ← sum_mulr]
    have e : ((nextF f S).map fun p => cntN f k (S ++ [p]) * restP f S).sum = ((nextF f S).map fun p => sizeF f p * fac k).sum := by
      refine sum_congr fun p hp => ?_
      have hp := mem_next.mp hp
      have ih := hook ok k (S ++ [p]) (u.snoc hp) (by rw [List.length_append]; simp; omega)
      rw [restP_snoc hp, ← ih]
      grind
    rw [e, sum_mulr, next_sizes ok u]
    have h := rest_len u
    rw [show (restL f S).length = k + 1 by omega]
    rfl
theorem cnt_next (ok : FieldOk f) (u : Up f S) {k : Nat} (hl : k + 1 + S.length = f.length) (h : okNext f S p = true) : cntN f (k + 1) S * sizeF f p = (k + 1) * cntN f k (S ++ [p]) := by
  have h1 := hook ok (k + 1) S u hl
  have h2 := hook ok k (S ++ [p]) (u.snoc h) (by rw [List.length_append]; simp; omega)
  rw [restP_snoc h] at h1
  apply Nat.eq_of_mul_eq_mul_right (restP_pos (S := S ++ [p]) ok)
  calc cntN f (k + 1) S * sizeF f p * restP f (S ++ [p]) = cntN f (k + 1) S * (sizeF f p * restP f (S ++ [p])) := Nat.mul_assoc ..
    _ = fac (k + 1) := h1
    _ = (k + 1) * fac k := rfl
    _ = (k + 1) * (cntN f k (S ++ [p]) * restP f (S ++ [p])) := by rw [h2]
    _ = (k + 1) * cntN f k (S ++ [p]) * restP f (S ++ [p]) := (Nat.mul_assoc ..).symm
/-- how many orders there are -/
def ordersF (f : List (Option Nat)) : List (List Nat) := extsN f f.length []
def countF (f : List (Option Nat)) : Nat := cntN f f.length []
theorem rest_nil : restL f [] = List.range f.length := by
  unfold restL
  rw [List.filter_eq_self]
  intro a _; rfl
theorem count_eq (ok : FieldOk f) : countF f * prodL (sizesF f) = fac f.length := by
  have h := hook ok f.length [] .nil (by simp)
  unfold restP at h
  rw [rest_nil] at h
  exact h
theorem count_pos (ok : FieldOk f) : 0 < countF f := by
  have h := count_eq ok
  have := fac_pos f.length
  rw [← h] at this
  exact Nat.pos_of_mul_pos_right this
end
end DL
/-! orders of fields: their numbers -/
namespace DL
open PySem L2
section
variable {f : List (Option Nat)} {S : List Nat} {p : Nat}
theorem fac_mono : ∀ {m n : Nat}, m ≤ n → fac m ≤ fac n
  | m, 0, h => by rw [Nat.le_zero.mp h]; exact Nat.le_refl _
  | m, n + 1, h => by
    by_cases e : m = n + 1
    · rw [e]; exact Nat.le_refl _
    · exact Nat.le_trans (fac_mono (by omega : m ≤ n)) (by show fac n ≤ (n + 1) * fac n; exact Nat.le_mul_of_pos_left _ (Nat.succ_pos n))
theorem cnt_le (ok : FieldOk f) {k : Nat} (u : Up f S) (hl : k + S.length = f.length) : cntN f k S ≤ fac 60 := by
  have h := hook ok k S u hl
  have h1 : cntN f k S ≤ cntN f k S * restP f S := Nat.le_mul_of_pos_right _ (restP_pos ok)
  rw [h] at h1
  exact Nat.le_trans h1 (fac_mono (by have := ok.hi; omega))
theorem cnt_pos (ok : FieldOk f) {k : Nat} (u : Up f S) (hl : k + S.length = f.length) : 0 < cntN f k S := by
  have h := hook ok k S u hl
  have := fac_pos k
  rw [← h] at this
  exact Nat.pos_of_mul_pos_right this
theorem cnt_div (ok : FieldOk f) (u : Up f S) {k : Nat} (hl : k + 1 + S.length = f.length) (h : okNext f S p = true) : cntN f (k + 1) S * sizeF f p / (k + 1) = cntN f k (S ++ [p]) := by
  rw [cnt_next ok u hl h, Nat.mul_div_cancel_left _ (Nat.succ_pos k)]
/-! ### membership -/
def isOrdN (f : List (Option Nat)) : List Nat → List Nat → Bool
  | _, [] => true
  | S, p :: l => okNext f S p && isOrdN f (S ++ [p]) l
theorem mem_exts : ∀ {k : Nat} {S l : List Nat}, l ∈ extsN f k S ↔ l.length = k ∧ isOrdN f S l = true
  | 0, S, l => by
    show l ∈ [[]] ↔ _
    rw [List.mem_singleton]
    constructor
    · rintro rfl; exact ⟨rfl, rfl⟩
    · rintro ⟨h, _⟩; exact List.eq_nil_of_length_eq_zero h
  | k + 1, S, l => by
    rw [show extsN f (k + 1) S = (nextF f S).flatMap fun p => (extsN f k (S ++ [p])).map (p :: ·) from rfl, List.mem_flatMap]
    constructor
    · rintro ⟨p, hp, hl⟩
      obtain ⟨m, hm, rfl⟩ := List.mem_map.mp hl
      obtain ⟨h1, h2⟩ := mem_exts.mp hm
      exact ⟨by rw [List.length_cons, h1], by show (okNext f S p && isOrdN f (S ++ [p]) m) = true; rw [mem_next.mp hp, h2]; rfl⟩
    · rintro ⟨h1, h2⟩
      cases l with
      | nil => cases h1
      | cons p m =>
        have h2 : okNext f S p = true ∧ isOrdN f (S ++ [p]) m = true := by simpa [isOrdN] using h2
        exact ⟨p, mem_next.mpr h2.1, List.mem_map.mpr ⟨m, mem_exts.mpr ⟨by simpa using h1, h2.2⟩, rfl⟩⟩
theorem ord_up : ∀ {l S : List Nat}, Up f S → isOrdN f S l = true → Up f (S ++ l)
  | [], S, u, _ => by rw [List.append_nil]; exact u
  | p :: l, S, u, h => by
    have h : okNext f S p = true ∧ isOrdN f (S ++ [p]) l = true := by simpa [isOrdN] using h
    have := ord_up (u.snoc h.1) h.2
    rwa [List.append_assoc] at this
theorem ord_split : ∀ {l m S : List Nat}, isOrdN f S (l ++ m) = (isOrdN f S l && isOrdN f (S ++ l) m)
  | [], m, S => by simp [isOrdN]
  | p :: l, m, S => by
    rw [List.cons_append]
    show (okNext f S p && isOrdN f (S ++ [p]) (l ++ m)) = ((okNext f S p && isOrdN f (S ++ [p]) l) && _)
    rw [ord_split, List.append_assoc, Bool.and_assoc]
    rfl
/-! ### the numbers -/
theorem next_sorted : (nextF f S).Pairwise (· < ·) := List.pairwise_lt_range.sublist List.filter_sublist
theorem flat_lt {α β : Type} {g : α → List β} {a : α} {l : List α} {i : Nat} (h : i < (g a).length) : ((a :: l).flatMap g)[i]? = (g a)[i]? := by
  rw [List.flatMap_cons, List.getElem?_append_left h]
theorem flat_ge {α β : Type} {g : α → List β} {a : α} {l : List α} {i : Nat} (h : (g a).length ≤ i) : ((a :: l).flatMap g)[i]? = (l.flatMap g)[i - (g a).length]? := by
  rw [List.flatMap_cons, List.getElem?_append_right h]
/-- how many orders begin with a lesser one -/
def baseN (f : List (Option Nat)) (k : Nat) (S : List Nat) (p : Nat) : Nat := (((nextF f S).filter fun q => decide (q < p)).map fun q => cntN f k (S ++ [q])).sum
theorem split_mem {L : List Nat} (hs : L.Pairwise (· < ·)) (hp : p ∈ L) : ∃ A B, L = A ++ p :: B ∧ (∀ a ∈ A, a < p) ∧ ∀ b ∈ B, p < b := by
  obtain ⟨A, B, rfl⟩ := List.append_of_mem hp
  rw [List.pairwise_append] at hs
  exact ⟨A, B, rfl, fun a ha => hs.2.2 a ha p List.mem_cons_self, fun b hb => (List.pairwise_cons.mp hs.2.1).1 b hb⟩
theorem exts_get {k i : Nat} {l : List Nat} (hp : okNext f S p = true) (h : (extsN f k (S ++ [p]))[i]? = some l) : (extsN f (k + 1) S)[baseN f k S p + i]? = some (p :: l) := by
  obtain ⟨A, B, e, hA, hB⟩ := split_mem next_sorted (mem_next.mpr hp)
  have hb : baseN f k S p = (A.flatMap fun q => (extsN f k (S ++ [q])).map (q :: ·)).length := by
    unfold baseN
    rw [e, flat_len, List.filter_append, List.filter_cons, if_neg (by simp)]
    rw [List.filter_eq_self.mpr (fun a ha => by simpa using hA a ha), List.filter_eq_nil_iff.mpr (fun b hb => by have := hB b hb; simp; omega), List.append_nil]
    refine sum_congr fun q _ => ?_
    rw [List.length_map]
    rfl
  rw [show extsN f (k + 1) S = (nextF f S).flatMap fun p => (extsN f k (S ++ [p])).map (p :: ·) from rfl, e, List.flatMap_append, hb, List.getElem?_append_right (by omega), Nat.add_sub_cancel_left, flat_lt (by rw [List.length_map]; exact (List.getElem?_eq_some_iff.mp h).1), List.getElem?_map, h]
  rfl
def rankN (f : List (Option Nat)) : Nat → List Nat → List Nat → Nat
  | k + 1, S, p :: l => baseN f k S p + rankN f k (S ++ [p]) l
  | _, _, _ => 0
theorem rank_get : ∀ {k : Nat} {S l : List Nat}, l ∈ extsN f k S → (extsN f k S)[rankN f k S l]? = some l
  | 0, S, l, h => by
    have h : l ∈ [[]] := h
    rw [List.mem_singleton] at h
    subst h
    rfl
  | k + 1, S, l, h => by
    obtain ⟨h1, h2⟩ := mem_exts.mp h
    cases l with
    | nil => cases h1
    | cons p m =>
      have h2 : okNext f S p = true ∧ isOrdN f (S ++ [p]) m = true := by simpa [isOrdN] using h2
      exact exts_get h2.1 (rank_get (mem_exts.mpr ⟨by simpa using h1, h2.2⟩))
/-! ### in ascending order -/
def lexN : List Nat → List Nat → Bool
  | [], [] => false
  | [], _ :: _ => true
  | _ :: _, [] => false
  | a :: l, b :: m => if a = b then lexN l m else decide (a < b)
theorem lexN_irr : ∀ l : List Nat, lexN l l = false
  | [] => rfl
  | a :: l => by
    unfold lexN
    rw [if_pos rfl, lexN_irr l]
theorem lexN_asymm : ∀ {l m : List Nat}, lexN l m = true → lexN m l = false
  | [], [], h => by cases h
  | [], _ :: _, _ => rfl
  | _ :: _, [], h => by cases h
  | a :: l, b :: m, h => by
    unfold lexN at h ⊢
    by_cases e : a = b
    · rw [if_pos e] at h
      rw [if_pos e.symm]
      exact lexN_asymm h
    · rw [if_neg e] at h
      rw [if_neg (fun z => e z.symm)]
      have h : a < b := of_decide_eq_true h
      exact decide_eq_false (by omega)
theorem exts_lex : ∀ {k : Nat} {S : List Nat}, (extsN f k S).Pairwise fun l m => lexN l m = true
  | 0, S => by show [[]].Pairwise _; exact List.pairwise_singleton ..
  | k + 1, S => by
    rw [show extsN f (k + 1) S = (nextF f S).flatMap fun p => (extsN f k (S ++ [p])).map (p :: ·) from rfl, List.pairwise_flatMap]
    refine ⟨fun p _ => ?_, next_sorted.imp fun {a b} hab l hl m hm => ?_⟩
    · rw [List.pairwise_map]
      refine exts_lex.imp fun {l m} h => ?_
      unfold lexN
      rw [if_pos rfl]; exact h
    · obtain ⟨l', _, rfl⟩ := List.mem_map.mp hl
      obtain ⟨m', _, rfl⟩ := List.mem_map.mp hm
      unfold lexN
      rw [if_neg (by omega)]
      exact decide_eq_true hab
theorem exts_lt {k i j : Nat} {l m : List Nat} (hi : (extsN f k S)[i]? = some l) (hj : (extsN f k S)[j]? = some m) : lexN l m = decide (i < j) := by
  have hp := exts_lex (f := f) (k := k) (S := S)
  rw [List.pairwise_iff_getElem] at hp
  obtain ⟨hi1, hi2⟩ := List.getElem?_eq_some_iff.mp hi
  obtain ⟨hj1, hj2⟩ := List.getElem?_eq_some_iff.mp hj
  rcases Nat.lt_trichotomy i j with h | h | h
  · have := hp i j hi1 hj1 h
    rw [hi2, hj2] at this
    rw [this, decide_eq_true h]
  · subst h
    rw [hi] at hj
    cases hj
    rw [lexN_irr, decide_eq_false (by omega)]
  · have := hp j i hj1 hi1 h
    rw [hi2, hj2] at this
    rw [lexN_asymm this, decide_eq_false (by omega)]
theorem exts_inj {k i j : Nat} {l : List Nat} (hi : (extsN f k S)[i]? = some l) (hj : (extsN f k S)[j]? = some l) : i = j := by
  have h1 := exts_lt hi hj
  have h2 := exts_lt hj hi
  rw [lexN_irr] at h1 h2
  have h1 := of_decide_eq_false h1.symm
  have h2 := of_decide_eq_false h2.symm
  omega
theorem rank_inv {k i : Nat} {l : List Nat} (h : (extsN f k S)[i]? = some l) : rankN f k S l = i := exts_inj (rank_get (List.mem_of_getElem? h)) h
/-- the first order: always the least who can come next; the last one: the greatest -/
def endF (f : List (Option Nat)) (last : Bool) : Nat → List Nat → List Nat
  | 0, _ => []
  | k + 1, S => match (if last = true then (nextF f S).getLast? else (nextF f S).head?) with
    | some p => p :: endF f last k (S ++ [p])
    | none => []
theorem endF_succ {last : Bool} {k : Nat} : endF f last (k + 1) S = match (if last = true then (nextF f S).getLast? else (nextF f S).head?) with
    | some p => p :: endF f last k (S ++ [p])
    | none => [] := rfl
theorem next_ne (ok : FieldOk f) (u : Up f S) {k : Nat} (hl : k + 1 + S.length = f.length) : nextF f S ≠ [] := by
  intro e
  have h := next_sizes ok u
  have h2 := rest_len u
  rw [e] at h
  simp at h
  omega
theorem first_get (ok : FieldOk f) : ∀ (k : Nat) (S : List Nat), Up f S → k + S.length = f.length → (extsN f k S)[0]? = some (endF f false k S)
  | 0, S, _, _ => rfl
  | k + 1, S, u, hl => by
    obtain ⟨p, L, e⟩ := List.exists_cons_of_ne_nil (next_ne ok u hl)
    have hp : okNext f S p = true := mem_next.mp (by rw [e]; exact List.mem_cons_self)
    have ih := first_get ok k (S ++ [p]) (u.snoc hp) (by rw [List.length_append]; simp; omega)
    have hpos : 0 < (extsN f k (S ++ [p])).length := cnt_pos ok (u.snoc hp) (by rw [List.length_append]; simp; omega)
    rw [show extsN f (k + 1) S = (nextF f S).flatMap fun p => (extsN f k (S ++ [p])).map (p :: ·) from rfl, e, flat_lt (by rw [List.length_map]; exact hpos), List.getElem?_map, ih]
    rw [endF_succ]
    simp [e]
theorem last_get (ok : FieldOk f) : ∀ (k : Nat) (S : List Nat), Up f S → k + S.length = f.length → (extsN f k S)[cntN f k S - 1]? = some (endF f true k S)
  | 0, S, _, _ => rfl
  | k + 1, S, u, hl => by
    have hne := next_ne ok u hl
    obtain ⟨L, p, e⟩ : ∃ L p, nextF f S = L ++ [p] := ⟨_, _, (List.dropLast_concat_getLast hne).symm⟩
    have hp : okNext f S p = true := mem_next.mp (by rw [e]; simp)
    have ih := last_get ok k (S ++ [p]) (u.snoc hp) (by rw [List.length_append]; simp; omega)
    have hpos : 0 < cntN f k (S ++ [p]) := cnt_pos ok (u.snoc hp) (by rw [List.length_append]; simp; omega)
    have hc : cntN f (k + 1) S = (L.flatMap fun p => (extsN f k (S ++ [p])).map (p :: ·)).length + cntN f k (S ++ [p]) := by
      unfold cntN
      rw [show extsN f (k + 1) S = (nextF f S).flatMap fun p => (extsN f k (S ++ [p])).map (p :: ·) from rfl, e, List.flatMap_append, List.length_append]
      simp
    rw [show extsN f (k + 1) S = (nextF f S).flatMap fun p => (extsN f k (S ++ [p])).map (p :: ·) from rfl, e, List.flatMap_append, hc, List.getElem?_append_right (by omega)]
    rw [show (L.flatMap fun p => (extsN f k (S ++ [p])).map (p :: ·)).length + cntN f k (S ++ [p]) - 1 - (L.flatMap fun p => (extsN f k (S ++ [p])).map (p :: ·)).length = cntN f k (S ++ [p]) - 1 by omega]
    simp only [List.flatMap_cons, List.flatMap_nil, List.append_nil]
    rw [List.getElem?_map, ih]
    rw [endF_succ]
    simp [e]
end
end DL
/-! promises: orders of fields -/
namespace KB
open PySem PySem.Spec PyProof.Rows L2 DL
theorem cmul4 {i j : Int} (h1 : 0 ≤ i) (h2 : i < (2 : Int) ^ 400) (h3 : 0 ≤ j) (h4 : j < (2 : Int) ^ 400) : CMulD i j := by
  have a := log_lt h1 h2 (by decide)
  have b := log_lt h3 h4 (by decide)
  unfold CMulD
  omega
theorem cdiv4 {i j : Int} (h1 : 0 < j) (h2 : j < (2 : Int) ^ 400) : CDivD i j := by
  have a := log_lt (Int.le_of_lt h1) h2 (by decide)
  exact ⟨h1, by omega⟩
theorem nat4 {n : Nat} (h : n < 2 ^ 400) : (n : Int) < (2 : Int) ^ 400 := by
  have : (n : Int) < ((2 ^ 400 : Nat) : Int) := Int.ofNat_lt.mpr h
  rwa [Int.natCast_pow] at this
theorem fac60 : fac 60 < 2 ^ 300 := by decide +kernel
theorem ki {Rr : Res → List Sl → Prop} {i j : Int} {post : List Sl} (k : ∀ post, Rr (.val (.int i)) post) (e : i = j) : Rr (.val (.int j)) post := e ▸ k post
/-! ### product, orders_by -/
def sp_product : DSp := fun as Rr => ∃ l : List Nat, as = [.sh (.lst (natsD l))] ∧ l.length ≤ 60 ∧ (∀ x ∈ l, 0 < x ∧ x ≤ 60) ∧ ∀ post, Rr (.val (.int (prodL l : Nat))) post
theorem prodL_le {l : List Nat} (h : ∀ x ∈ l, 0 < x ∧ x ≤ 60) : prodL l ≤ 60 ^ l.length := by
  induction l with
  | nil => exact Nat.le_refl _
  | cons a l ih =>
    show a * prodL l ≤ 60 ^ (l.length + 1)
    rw [Nat.pow_succ, Nat.mul_comm]
    exact Nat.mul_le_mul (ih fun x hx => h x (List.mem_cons_of_mem _ hx)) (h a List.mem_cons_self).2
theorem prodL_small {l : List Nat} (h : ∀ x ∈ l, 0 < x ∧ x ≤ 60) (hl : l.length ≤ 60) : prodL l < 2 ^ 400 := by
  refine Nat.lt_of_le_of_lt (prodL_le h) (Nat.lt_of_le_of_lt (Nat.pow_le_pow_right (by decide) hl) ?_)
  decide +kernel
theorem take_snoc {l : List Nat} {i x : Nat} (h : l[i]? = some x) : l.take (i + 1) = l.take i ++ [x] := by
  rw [List.take_add_one, h]; rfl
theorem law_product (as : List Sl) (Rr : Res → List Sl → Prop) (h : sp_product as Rr) : t_product (fun er ρ => Rr (.er er) (outs as ρ)) (bodyEd as Rr) (as ++ List.replicate 2 .no) := by
  obtain ⟨l, rfl, hl, hx, k⟩ := h
  refine ⟨fun i ρ => ∃ s2, ρ = [.sh (.lst (natsD l)), .sh (.int (prodL (l.take i) : Nat)), s2], ⟨.no, rfl⟩, ?_, ?_⟩
  · rintro i d ρ hi hd ⟨s2, rfl⟩
    have hi : i < (natsD l).length := hi
    rw [natsD_len] at hi
    have hd : (natsD l)[i]? = some d := hd
    have hv : l[i]? = some l[i] := List.getElem?_eq_getElem hi
    rw [nats_at hv] at hd
    cases hd
    generalize l[i] = x at hv
    obtain ⟨x0, x1⟩ := hx x (List.mem_of_getElem? hv)
    have hp : prodL (l.take i) < 2 ^ 400 := prodL_small (fun y hy => hx y (List.mem_of_mem_take hy)) (by rw [List.length_take]; omega)
    refine ⟨cmul4 (by omega) (nat4 hp) (by omega) (Int.lt_of_le_of_lt (show (x : Int) ≤ 60 by omega) (by decide)), .sh (.int (x : Int)), ?_⟩
    show [_, Sl.sh (.int ((prodL (l.take i) : Int) * (x : Int))), _] = _
    rw [take_snoc hv, prodL_append]
    show _ = [_, Sl.sh (.int ((prodL (l.take i) * (x * 1) : Nat) : Int)), _]
    rw [Nat.mul_one, Int.natCast_mul]
  · rintro ρ ⟨s2, rfl⟩
    refine ki k ?_
    show _ = ((prodL (l.take (natsD l).length) : Nat) : Int)
    rw [natsD_len, List.take_length]
def upto (n : Nat) : List Nat := (List.range n).map (· + 1)
theorem fac_upto : ∀ n, prodL (upto n) = fac n
  | 0 => rfl
  | n + 1 => by
    unfold upto
    rw [List.range_succ, List.map_append, prodL_append, show prodL ((List.range n).map (· + 1)) = fac n from fac_upto n]
    show fac n * ((n + 1) * 1) = (n + 1) * fac n
    rw [Nat.mul_one, Nat.mul_comm]
theorem rg_upto (n : Nat) : rgD 1 ((n : Int) + 1) = natsD (upto n) := by
  unfold rgD natsD upto
  rw [show ((n : Int) + 1 - 1).toNat = n by omega, List.map_map]
  refine List.map_congr_left fun i _ => ?_
  show D.int _ = D.int _
  congr 1
  show (1 : Int) + (i : Int) = ((i + 1 : Nat) : Int)
  omega
theorem sizes_len (f : List (Option Nat)) : (sizesF f).length = f.length := by unfold sizesF; rw [List.length_map, List.length_range]
theorem sizes_ok {f : List (Option Nat)} (ok : FieldOk f) : ∀ x ∈ sizesF f, 0 < x ∧ x ≤ 60 := fun x hx => by
  unfold sizesF at hx
  obtain ⟨p, hp, rfl⟩ := List.mem_map.mp hx
  have := part_pos ok (List.mem_range.mp hp)
  have := ok.hi
  omega
theorem prod_sizes_pos {f : List (Option Nat)} (ok : FieldOk f) : 0 < prodL (sizesF f) := prodL_pos fun x hx => (sizes_ok ok x hx).1
theorem count_div {f : List (Option Nat)} (ok : FieldOk f) : (fac f.length : Int) / (prodL (sizesF f) : Int) = (countF f : Nat) := by
  rw [← count_eq ok, ← Int.natCast_ediv, Nat.mul_div_cancel _ (prod_sizes_pos ok)]
def sp_orders_by : DSp := fun as Rr => ∃ f : List (Option Nat), as = [.sh (.lst (natsD (sizesF f)))] ∧ FieldOk f ∧ ∀ post, Rr (.val (.int (countF f : Nat))) post
theorem law_orders_by (as : List Sl) (Rr : Res → List Sl → Prop) (h : sp_orders_by as Rr) : t_orders_by sp_product (fun er ρ => Rr (.er er) (outs as ρ)) (bodyEd as Rr) (as ++ List.replicate 0 .no) := by
  obtain ⟨f, rfl, ok, k⟩ := h
  have hl := ok.hi
  have e : ((natsD (sizesF f)).length : Int) = (f.length : Int) := by rw [natsD_len, sizes_len]
  refine ⟨RgOk.of_le (by decide) (by omega) (by decide) (by omega), upto f.length, ?_, by unfold upto; rw [List.length_map, List.length_range]; exact hl, fun x hx => ?_, fun post => ⟨sizesF f, rfl, by rw [sizes_len]; exact hl, sizes_ok ok, fun post' => ⟨cdiv4 (by have := prod_sizes_pos ok; omega) (nat4 (prodL_small (sizes_ok ok) (by rw [sizes_len]; exact hl))), ?_⟩⟩⟩
  · show [Sl.sh (.lst (rgD 1 (((natsD (sizesF f)).length : Int) + 1)))] = _
    rw [e, rg_upto]
  · unfold upto at hx
    obtain ⟨p, hp, rfl⟩ := List.mem_map.mp hx
    have := List.mem_range.mp hp
    omega
  · refine ki k ?_
    show _ = ((prodL (upto f.length) : Nat) : Int) / ((prodL (sizesF f) : Nat) : Int)
    rw [fac_upto, count_div ok]
/-! ### count_orders -/
def sp_count_orders (aF : Addr) : DSp := fun as Rr => (∃ f, as = [.sh (fieldD f)] ∧ FieldOk f ∧ ∀ post, Rr (.val (.int (countF f : Nat))) post) ∨ ∃ d, as = [.sh d] ∧ isFieldD d = false ∧ ∀ post, Rr (.er ⟨aF, []⟩) post
theorem law_count_orders {aF : Addr} (as : List Sl) (Rr : Res → List Sl → Prop) (h : sp_count_orders aF as Rr) : t_count_orders sp_sizes_of sp_orders_by (sp_look_at_field aF) (fun er ρ => Rr (.er er) (outs as ρ)) (bodyEd as Rr) (as ++ List.replicate 0 .no) := by
  rcases h with ⟨f, rfl, ok, k⟩ | ⟨d, rfl, hd, k⟩
  · exact ⟨fieldD f, rfl, rfl, fun _ post => ⟨f, rfl, ok, fun post => ⟨f, rfl, ok, fun post => k _⟩⟩, fun z => (by rw [ok.is] at z; cases z)⟩
  · exact ⟨d, rfl, nt_of hd, fun z => (by rw [hd] at z; cases z), fun _ post => k _⟩
/-! ### next_ones -/
def abvD (S : List Nat) : Option Nat → Bool
  | none => true
  | some q => S.contains q
theorem okNext_eq {f : List (Option Nat)} {S : List Nat} {p : Nat} {o : Option Nat} (ho : f[p]? = some o) : okNext f S p = (!S.contains p && abvD S o) := by
  unfold okNext
  rw [ho]
  cases o <;> rfl
theorem okTg {tc : TEd} {f : List (Option Nat)} {S : List Nat} {p : Nat} {o : Option Nat} {ρ : List Sl} {a b : Nat} {Q : Bool → List Sl → Prop} (h1 : ρ[a]? = some (.sh (.int (p : Int)))) (h2 : ρ[b]? = some (.sh (optD o))) (h3 : ∀ R : Rv → List Sl → Prop, R (.val (.tup (natsD S))) ρ → tc ρ R) (ho : f[p]? = some o) (k : Q (okNext f S p) ρ) :
    rAndT (rTst (rBin (inD true) (rVar a) tc)) (rOrT (rTst (rBin (isN false) (rVar b) (rC .non))) (rTst (rBin (inD false) (rVar b) tc))) ρ Q := by
  have v : ∀ {i : Nat} {d : D} {R : Rv → List Sl → Prop}, ρ[i]? = some (.sh d) → R (.val d) ρ → rVar i ρ R := fun hi hr => by
    unfold rVar
    rw [hi]
    exact hr
  rw [okNext_eq ho] at k
  unfold rAndT rTst rBin
  refine v h1 ?_
  refine h3 _ ?_
  refine ⟨⟨rfl, flat_nats _⟩, ?_⟩
  show ((!((natsD S).any fun y => PyData.eqv y.py (D.int (p : Int)).py)) = true → _) ∧ ((!((natsD S).any fun y => PyData.eqv y.py (D.int (p : Int)).py)) = false → Q false ρ)
  rw [eqv_any]
  refine ⟨fun hc => ?_, fun hc => ?_⟩
  · rw [hc, Bool.true_and] at k
    unfold rOrT
    refine v h2 ?_
    cases o with
    | none => exact ⟨fun _ => k, fun z => (by cases z)⟩
    | some q =>
      refine ⟨fun z => (by cases z), fun _ => ?_⟩
      refine v h2 ?_
      refine h3 _ ?_
      refine ⟨⟨rfl, flat_nats _⟩, ?_⟩
      show Q ((natsD S).any fun y => PyData.eqv y.py (D.int (q : Int)).py) ρ
      rw [eqv_any]
      exact k
  · rw [hc, Bool.false_and] at k
    exact k
theorem rvar_at {ρ : List Sl} {i : Nat} {d : D} (h : ρ[i]? = some (.sh d)) (R : Rv → List Sl → Prop) (hr : R (.val d) ρ) : rVar i ρ R := by
  unfold rVar
  rw [h]
  exact hr
theorem okT {f : List (Option Nat)} {S : List Nat} {p : Nat} {o : Option Nat} {ρ : List Sl} {a b c : Nat} {Q : Bool → List Sl → Prop} (h1 : ρ[a]? = some (.sh (.int (p : Int)))) (h2 : ρ[b]? = some (.sh (optD o))) (h3 : ρ[c]? = some (.sh (.tup (natsD S)))) (ho : f[p]? = some o) (k : Q (okNext f S p) ρ) :
    rAndT (rTst (rBin (inD true) (rVar a) (rVar c))) (rOrT (rTst (rBin (isN false) (rVar b) (rC .non))) (rTst (rBin (inD false) (rVar b) (rVar c)))) ρ Q := okTg h1 h2 (rvar_at h3) ho k
theorem okTW {f : List (Option Nat)} {S : List Nat} {p : Nat} {o : Option Nat} {ρ : List Sl} {a b c : Nat} {Q : Bool → List Sl → Prop} (h1 : ρ[a]? = some (.sh (.int (p : Int)))) (h2 : ρ[b]? = some (.sh (optD o))) (h3 : ρ[c]? = some (.sh (.tux true (natsD S)))) (ho : f[p]? = some o) (k : Q (okNext f S p) ρ) :
    rAndT (rTst (rBin (inD true) (rVar a) (rWk (rVar c)))) (rOrT (rTst (rBin (isN false) (rVar b) (rC .non))) (rTst (rBin (inD false) (rVar b) (rWk (rVar c))))) ρ Q := okTg h1 h2 (fun R hr => rvar_at h3 _ hr) ho k
theorem filt_snoc {i : Nat} {p : Nat → Bool} : (List.range (i + 1)).filter p = (List.range i).filter p ++ if p i = true then [i] else [] := by
  rw [List.range_succ, List.filter_append]
  congr 1
  by_cases h : p i = true
  · rw [if_pos h]; simp [h]
  · rw [if_neg h]; simp [h]
theorem filt_in {i : Nat} {p : Nat → Bool} (h : p i = true) : natsD ((List.range (i + 1)).filter p) = natsD ((List.range i).filter p) ++ [.int (i : Int)] := by
  rw [filt_snoc, if_pos h]; unfold natsD; rw [List.map_append]; rfl
theorem filt_out {i : Nat} {p : Nat → Bool} (h : p i = false) : natsD ((List.range (i + 1)).filter p) = natsD ((List.range i).filter p) := by
  rw [filt_snoc, if_neg (by rw [h]; decide), List.append_nil]
theorem filt_len {i : Nat} {p : Nat → Bool} : (natsD ((List.range i).filter p)).length ≤ i := by
  rw [natsD_len]
  have := List.length_filter_le p (List.range i)
  rwa [List.length_range] at this
theorem opt_at {f : List (Option Nat)} {i : Nat} {d : D} (h : (f.map optD)[i]? = some d) : ∃ o, f[i]? = some o ∧ d = optD o := by
  rw [List.getElem?_map] at h
  cases e : f[i]? with
  | none => rw [e] at h; cases h
  | some o => rw [e] at h; cases h; exact ⟨o, rfl, rfl⟩
def sp_next_ones : DSp := fun as Rr => ∃ (f : List (Option Nat)) (S : List Nat), as = [.sh (fieldD f), .sh (.tup (natsD S))] ∧ f.length ≤ 1000 ∧ ∀ post, Rr (.new (natsD (nextF f S))) post
theorem law_next_ones (as : List Sl) (Rr : Res → List Sl → Prop) (h : sp_next_ones as Rr) : t_next_ones (fun er ρ => Rr (.er er) (outs as ρ)) (bodyEd as Rr) (as ++ List.replicate 3 .no) := by
  obtain ⟨f, S, rfl, hf, k⟩ := h
  have hm : (f.map optD).length = f.length := List.length_map _
  refine ⟨fun i ρ => ∃ s3 s4, ρ = [.sh (fieldD f), .sh (.tup (natsD S)), .ow true (natsD ((List.range i).filter (okNext f S))), s3, s4], ⟨.no, .no, rfl⟩, ?_, ?_⟩
  · rintro i d ρ hi ⟨x, hx, rfl⟩ ⟨s3, s4, rfl⟩
    obtain ⟨o, ho, rfl⟩ := opt_at hx
    have hi : i < (f.map optD).length := hi
    refine ⟨rfl, rfl, ?_⟩
    refine okT (f := f) (S := S) (p := i) (o := o) (ρ := [.sh (fieldD f), .sh (.tup (natsD S)), .ow true (natsD ((List.range i).filter (okNext f S))), .sh (.int (i : Int)), .sh (optD o)]) (a := 3) (b := 4) (c := 1) rfl rfl rfl ho ?_
    refine ⟨fun h => ?_, fun h => ?_⟩
    · refine ⟨rfl, ?_⟩
      refine ⟨Nat.lt_of_le_of_lt filt_len (by omega), .sh (.int (i : Int)), .sh (optD o), ?_⟩
      rw [filt_in h]
      rfl
    · refine ⟨.sh (.int (i : Int)), .sh (optD o), ?_⟩
      rw [filt_out h]
  · rintro ρ ⟨s3, s4, rfl⟩
    refine kn k ?_
    show _ = natsD ((List.range (f.map optD).length).filter _)
    rw [hm]
    rfl
end KB
/-! promises: nth_order, is_order_of, order_number -/
namespace KB
open PySem PySem.Spec PyProof.Rows L2 DL
theorem take_snoc_d {xs : List D} {i : Nat} {x : D} (h : xs[i]? = some x) : xs.take (i + 1) = xs.take i ++ [x] := by
  rw [List.take_add_one, h]; rfl
theorem cut_to {α : Type} {xs : List α} {i : Nat} : DL.cutD xs none (some (i : Int)) = xs.take i := by
  unfold DL.cutD
  rw [HT.sIx_none, HT.sIx_nat, List.drop_zero, Nat.sub_zero, ← List.take_eq_take_min]
theorem natsD_take (l : List Nat) (i : Nat) : (natsD l).take i = natsD (l.take i) := by unfold natsD; rw [List.map_take]
theorem size_nats {f : List (Option Nat)} {p : Nat} (hp : p < f.length) : atI (natsD (sizesF f)) (p : Int) = some (.int (sizeF f p : Nat)) := atI_nat (nats_at (size_at hp))
section
variable {f : List (Option Nat)} {S : List Nat} {p k : Nat}
theorem cnt4 (ok : FieldOk f) (u : Up f S) (hl : k + S.length = f.length) : cntN f k S < 2 ^ 400 :=
  Nat.lt_of_le_of_lt (cnt_le ok u hl) (Nat.lt_of_lt_of_le fac60 (Nat.pow_le_pow_right (by decide) (by decide)))
theorem size_ok (ok : FieldOk f) (hp : p < f.length) : 0 < sizeF f p ∧ sizeF f p ≤ 60 := by
  have := size_pos ok hp
  have := ok.hi
  omega
/-- whole * sizes[p] // left -/
theorem step_ok (ok : FieldOk f) (u : Up f S) (hl : k + 1 + S.length = f.length) (h : okNext f S p = true) : CMulD (cntN f (k + 1) S : Nat) (sizeF f p : Nat) ∧ CDivD ((cntN f (k + 1) S : Int) * (sizeF f p : Nat)) ((k + 1 : Nat) : Int) ∧ (cntN f (k + 1) S : Int) * (sizeF f p : Nat) / ((k + 1 : Nat) : Int) = (cntN f k (S ++ [p]) : Nat) := by
  obtain ⟨s0, s1⟩ := size_ok ok (okNext_lt h)
  have hk := ok.hi
  refine ⟨cmul4 (by omega) (nat4 (cnt4 ok u hl)) (by omega) (Int.lt_of_le_of_lt (show ((sizeF f p : Nat) : Int) ≤ 60 by omega) (by decide)), cdiv4 (by omega) (Int.lt_of_le_of_lt (show ((k + 1 : Nat) : Int) ≤ 60 by omega) (by decide)), ?_⟩
  rw [← Int.natCast_mul, ← Int.natCast_ediv, cnt_div ok u hl h]
/-- what may follow, the first j of the next ones left out -/
def dropL (f : List (Option Nat)) (k : Nat) (S : List Nat) (j : Nat) : List (List Nat) := ((nextF f S).drop j).flatMap fun p => (extsN f k (S ++ [p])).map (p :: ·)
theorem drop_zero : dropL f k S 0 = extsN f (k + 1) S := rfl
theorem drop_end {j : Nat} (h : (nextF f S).length ≤ j) : dropL f k S j = [] := by unfold dropL; rw [List.drop_eq_nil_of_le h]; rfl
theorem drop_in {j m : Nat} (h : (nextF f S)[j]? = some p) (hm : m < cntN f k (S ++ [p])) : (dropL f k S j)[m]? = ((extsN f k (S ++ [p]))[m]?).map (p :: ·) := by
  unfold dropL
  obtain ⟨hj, e⟩ := List.getElem?_eq_some_iff.mp h
  rw [List.drop_eq_getElem_cons hj, e, flat_lt (by rw [List.length_map]; exact hm), List.getElem?_map]
theorem drop_out {j m : Nat} (h : (nextF f S)[j]? = some p) (hm : cntN f k (S ++ [p]) ≤ m) : (dropL f k S j)[m]? = (dropL f k S (j + 1))[m - cntN f k (S ++ [p])]? ∧ (m < (dropL f k S j).length → m - cntN f k (S ++ [p]) < (dropL f k S (j + 1)).length) := by
  obtain ⟨hj, e⟩ := List.getElem?_eq_some_iff.mp h
  have hl : ((extsN f k (S ++ [p])).map (p :: ·)).length = cntN f k (S ++ [p]) := List.length_map _
  unfold dropL
  rw [List.drop_eq_getElem_cons hj, e]
  refine ⟨?_, fun h => ?_⟩
  · rw [flat_ge (by rw [hl]; exact hm), hl]
  · rw [List.flatMap_cons, List.length_append, hl] at h
    omega
end
/-! ### nth_order -/
structure NthP (aF aN : Addr) (as : List Sl) (Rr : Res → List Sl → Prop) : Prop where
  out : (∃ f e, as = [.sh (fieldD f), .sh e] ∧ FieldOk f ∧ (∀ N : Nat, e = .int (N : Int) → N < countF f → ∀ post l, (ordersF f)[N]? = some l → Rr (.val (.tup (natsD l))) post) ∧ (withinD e 0 ((countF f : Int) - 1) = false → ∀ post, Rr (.er ⟨aN, []⟩) post)) ∨
    ∃ d e, as = [.sh d, .sh e] ∧ isFieldD d = false ∧ ∀ post, Rr (.er ⟨aF, []⟩) post
def sp_nth (aF aN : Addr) : DSp := NthP aF aN
theorem within_nat {e : D} {n : Nat} (h : withinD e 0 ((n : Int) - 1) = true) : ∃ N : Nat, e = .int (N : Int) ∧ N < n := by
  cases e with
  | int i =>
    have h : 0 ≤ i ∧ i ≤ (n : Int) - 1 := of_decide_eq_true h
    exact ⟨i.toNat, by congr 1; omega, by omega⟩
  | _ => cases h
theorem law_nth_order {aF aN : Addr} (as : List Sl) (Rr : Res → List Sl → Prop) (h : sp_nth aF aN as Rr) : t_nth_order aN sp_next_ones sp_is_within sp_orders_by sp_sizes_of (sp_look_at_field aF) (fun er ρ => Rr (.er er) (outs as ρ)) (bodyEd as Rr) (as ++ List.replicate 6 .no) := by
  rcases NthP.out h with ⟨f, e, rfl, ok, k1, k2⟩ | ⟨d, e, rfl, hd, k⟩
  · refine ⟨fieldD f, rfl, rfl, fun _ post => ⟨f, rfl, ok, fun post => ⟨f, rfl, ok, fun post => ⟨trivial, e, 0, (countF f : Int) - 1, rfl, fun post => ⟨fun h => ?_, fun h => ?_⟩⟩⟩⟩, fun z => (by rw [ok.is] at z; cases z)⟩
    · exact k2 (by simpa using h) _
    · have h : (!withinD e 0 ((countF f : Int) - 1)) = false := h
      obtain ⟨N, rfl, hN⟩ := within_nat (by simpa using h)
      have k1 := k1 N rfl hN
      have hm : (f.map optD).length = f.length := List.length_map _
      have hl := ok.hi
      have hlo := ok.lo
      refine ⟨rfl, ⟨by rw [hm]; omega, by rw [hm]; omega, by decide, by decide⟩,
        fun t ρ => ∃ (S : List Nat) (m : Nat) (s5 s6 s7 : Sl), ρ = [.sh (fieldD f), .sh (.int (m : Int)), .sh (.lst (natsD (sizesF f))), .sh (.int (cntN f (f.length - t) S : Nat)), .sh (.tup (natsD S)), s5, s6, s7] ∧ Up f S ∧ S.length = t ∧ t ≤ f.length ∧ m < cntN f (f.length - t) S ∧ ((extsN f (f.length - t) S)[m]?).map (S ++ ·) = (ordersF f)[N]?, ⟨[], N, .no, .no, .no, ?_, Up.nil, rfl, by omega, ?_, ?_⟩, ?_, ?_⟩
      · rw [Nat.sub_zero]; rfl
      · rw [Nat.sub_zero]; exact hN
      · rw [Nat.sub_zero]; show _ = (extsN f f.length [])[N]?
        cases (extsN f f.length [])[N]? <;> rfl
      · rintro t d ρ ht rfl ⟨S, m, s5, s6, s7, rfl, u, hS, htl, hm1, hm2⟩
        have ht : t < ((((f.map optD).length : Nat) : Int) - 0).toNat := ht
        rw [hm] at ht
        obtain ⟨q, hq⟩ : ∃ q, f.length - t = q + 1 := ⟨f.length - t - 1, by omega⟩
        have hq' : q + 1 + S.length = f.length := by omega
        have el : (((f.map optD).length : Nat) : Int) - (t : Int) = ((q + 1 : Nat) : Int) := by rw [hm]; omega
        rw [hq] at hm1 hm2 ⊢
        refine ⟨f, S, rfl, by omega, fun post => ⟨fun j ρ => ∃ (m : Nat) (s6 s7 : Sl), ρ = [.sh (fieldD f), .sh (.int (m : Int)), .sh (.lst (natsD (sizesF f))), .sh (.int (cntN f (q + 1) S : Nat)), .sh (.tup (natsD S)), .sh (.int (((f.map optD).length : Nat) - (t : Int))), s6, s7] ∧ m < (dropL f q S j).length ∧ ((dropL f q S j)[m]?).map (S ++ ·) = (ordersF f)[N]?, ⟨m, s6, s7, rfl, hm1, hm2⟩, ?_, ?_⟩⟩
        · rintro j d ρ hj hd ⟨m, s6, s7, rfl, hm1, hm2⟩
          have hd : (natsD (nextF f S))[j]? = some d := hd
          have hj : j < (natsD (nextF f S)).length := hj
          rw [natsD_len] at hj
          have hv : (nextF f S)[j]? = some (nextF f S)[j] := List.getElem?_eq_getElem hj
          rw [nats_at hv] at hd
          cases hd
          generalize (nextF f S)[j] = p at hv
          have hp := mem_next.mp (List.mem_of_getElem? hv)
          obtain ⟨c1, c2, c3⟩ := step_ok ok u hq' hp
          rw [el]
          refine ⟨_, size_nats (okNext_lt hp), c1, c2, ?_⟩
          show (decide ((m : Int) < (cntN f (q + 1) S : Int) * (sizeF f p : Nat) / ((q + 1 : Nat) : Int)) = true → _) ∧ (decide ((m : Int) < (cntN f (q + 1) S : Int) * (sizeF f p : Nat) / ((q + 1 : Nat) : Int)) = false → _)
          rw [c3]
          refine ⟨fun h => ?_, fun h => ?_⟩
          · have h : (m : Int) < (cntN f q (S ++ [p]) : Nat) := of_decide_eq_true h
            have h : m < cntN f q (S ++ [p]) := by omega
            rw [drop_in hv h] at hm2
            have e1 : f.length - (t + 1) = q := by omega
            refine ⟨by rw [natsD_len]; show S.length + 1 ≤ _; omega, S ++ [p], m, .sh (.int ((q + 1 : Nat) : Int)), .sh (.int (p : Int)), .sh (.int (cntN f q (S ++ [p]) : Nat)), ?_, u.snoc hp, by rw [List.length_append, hS]; rfl, by omega, ?_, ?_⟩
            · rw [e1]
              unfold natsD
              rw [List.map_append]
              show [_, _, _, Sl.sh (.int ((cntN f (q + 1) S : Int) * (sizeF f p : Nat) / ((q + 1 : Nat) : Int))), _, _, _, Sl.sh (.int ((cntN f (q + 1) S : Int) * (sizeF f p : Nat) / ((q + 1 : Nat) : Int)))] = _
              rw [c3]
              rfl
            · rw [e1]; exact h
            · rw [e1, ← hm2, Option.map_map]
              congr 1
              funext x
              simp
          · have h : ¬ (m : Int) < (cntN f q (S ++ [p]) : Nat) := of_decide_eq_false h
            have h : cntN f q (S ++ [p]) ≤ m := by omega
            obtain ⟨d1, d2⟩ := drop_out hv h
            refine ⟨_, rfl, _, rfl, m - cntN f q (S ++ [p]), .sh (.int (p : Int)), .sh (.int (cntN f q (S ++ [p]) : Nat)), ?_, d2 hm1, by rw [← d1]; exact hm2⟩
            show [_, Sl.sh (.int ((m : Int) - (cntN f (q + 1) S : Int) * (sizeF f p : Nat) / ((q + 1 : Nat) : Int))), _, _, _, Sl.sh (.int ((q + 1 : Nat) : Int)), _, Sl.sh (.int ((cntN f (q + 1) S : Int) * (sizeF f p : Nat) / ((q + 1 : Nat) : Int)))] = _
            rw [c3, Int.ofNat_sub h]
        · rintro ρ ⟨m, s6, s7, rfl, hm1, hm2⟩
          rw [show (itL (natsD (nextF f S))).n = (nextF f S).length from natsD_len _, drop_end (Nat.le_refl _)] at hm1
          exact absurd hm1 (Nat.not_lt_zero _)
      · rintro ρ ⟨S, m, s5, s6, s7, rfl, u, hS, htl, hm1, hm2⟩
        rw [show (itC (((f.map optD).length : Nat) : Int) ((((f.map optD).length : Nat) : Int) - 0).toNat).n = f.length from by show ((((f.map optD).length : Nat) : Int) - 0).toNat = _; rw [hm]; omega] at hm1 hm2
        rw [Nat.sub_self] at hm1 hm2
        have hm1 : m < 1 := hm1
        have e0 : m = 0 := by omega
        subst e0
        have hm2 : some (S ++ []) = (ordersF f)[N]? := hm2
        rw [List.append_nil] at hm2
        exact k1 _ S hm2.symm
  · exact ⟨d, rfl, nt_of hd, fun z => (by rw [hd] at z; cases z), fun _ post => k _⟩
end KB
/-! promises: is_order_of, order_number -/
namespace KB
open PySem PySem.Spec PyProof.Rows L2 DL
/-! ### is_order_of -/
def isOrdD (f : List (Option Nat)) : D → Bool
  | .tup xs => decide (xs.length = f.length) && (xs.all (fun d => withinD d 0 ((f.length : Int) - 1)) && isOrdN f [] (xs.map natOf))
  | _ => false
theorem cont_next {f : List (Option Nat)} {S : List Nat} {p : Nat} : (nextF f S).contains p = okNext f S p := by
  rw [Bool.eq_iff_iff, List.contains_iff_mem, mem_next]
theorem ord_all {f : List (Option Nat)} {l : List Nat} : ∀ {i : Nat}, i ≤ l.length → ((List.range i).map fun j => (nextF f (l.take j)).contains (l.getD j 0)).all id = isOrdN f [] (l.take i)
  | 0, _ => rfl
  | i + 1, h => by
    rw [List.range_succ, List.map_append, List.all_append, ord_all (Nat.le_of_succ_le h), take_snoc (List.getElem?_eq_getElem h), ord_split, List.nil_append]
    congr 1
    show ((nextF f (l.take i)).contains (l.getD i 0) && true) = (okNext f (l.take i) l[i] && true)
    rw [cont_next, List.getD_eq_getElem?_getD, List.getElem?_eq_getElem h]
    rfl
theorem all_nats {n : Int} : ∀ {xs : List D}, xs.all (fun d => withinD d 0 n) = true → xs = natsD (xs.map natOf)
  | [], _ => rfl
  | d :: xs, h => by
    rw [List.all_cons, Bool.and_eq_true] at h
    have e := all_nats h.2
    show d :: xs = D.int (natOf d : Nat) :: natsD (xs.map natOf)
    rw [← e]
    congr 1
    have h1 := h.1
    cases d with
    | int i =>
      have h : 0 ≤ i ∧ i ≤ n := of_decide_eq_true h1
      show D.int i = D.int ((i.toNat : Nat) : Int)
      congr 1; omega
    | _ => cases h1
def sp_is_order_of : DSp := fun as Rr => ∃ f e, as = [.sh (fieldD f), .sh e] ∧ FieldOk f ∧ nt e = true ∧ ∀ post, Rr (.val (.bl (isOrdD f e))) post
theorem law_is_order_of (as : List Sl) (Rr : Res → List Sl → Prop) (h : sp_is_order_of as Rr) : t_is_order_of sp_next_ones sp_is_within (fun er ρ => Rr (.er er) (outs as ρ)) (bodyEd as Rr) (as ++ List.replicate 2 .no) := by
  obtain ⟨f, e, rfl, ok, hnt, k⟩ := h
  have hl := ok.hi
  have hm : (f.map optD).length = f.length := List.length_map _
  cases e with
  | tux _ _ => cases hnt
  | tup xs =>
    refine ⟨fun z => (by cases z), fun _ => ⟨fun h => ?_, fun h => ?_⟩⟩
    · have h : (!decide ((xs.length : Int) = ((f.map optD).length : Nat))) = true := h
      refine kb k ?_
      show (decide (xs.length = f.length) && _) = false
      rw [hm] at h
      rw [decide_eq_false (by simp at h; omega), Bool.false_and]
    · have h : (!decide ((xs.length : Int) = ((f.map optD).length : Nat))) = false := h
      have hx : xs.length = f.length := by
        rw [hm] at h
        simp at h
        omega
      have k : ∀ post, Rr (.val (.bl (xs.all (fun d => withinD d 0 ((f.length : Int) - 1)) && isOrdN f [] (xs.map natOf)))) post := fun post => kb k (by
        show (decide (xs.length = f.length) && _) = _
        rw [decide_eq_true hx, Bool.true_and])
      refine ⟨fun i acc ρ => acc = ((xs.take i).map fun d => withinD d 0 ((f.length : Int) - 1)).map D.bl ∧ ρ = [.sh (fieldD f), .sh (.tup xs), .no, .no], ⟨rfl, rfl⟩, ?_, ?_⟩
      · rintro i d acc ρ hi hd ⟨rfl, rfl⟩
        have hi : i < xs.length := hi
        have hd : xs[i]? = some d := hd
        refine ⟨fun _ => ⟨trivial, d, 0, _, rfl, fun post => ⟨by rw [List.length_map, List.length_map, List.length_take]; omega, ?_, rfl⟩⟩, fun z => (by cases z)⟩
        rw [take_snoc_d hd, List.map_append, List.map_append]
        show _ ++ [D.bl (withinD d 0 ((((f.map optD).length : Nat) : Int) - 1))] = _
        rw [hm]
        rfl
      · rintro acc ρ ⟨rfl, rfl⟩
        have e1 : (xs.take (itL xs).n) = xs := List.take_length
        rw [e1]
        refine ⟨_, rfl, fun h => ?_, fun h => ?_⟩
        · have h : (!((xs.map fun d => withinD d 0 ((f.length : Int) - 1)).all id)) = true := h
          rw [List.all_map] at h
          refine kb k ?_
          show (xs.all (id ∘ fun d => withinD d 0 ((f.length : Int) - 1)) && _) = false
          rw [show xs.all (id ∘ fun d => withinD d 0 ((f.length : Int) - 1)) = false by simpa using h, Bool.false_and]
        · have h : (!((xs.map fun d => withinD d 0 ((f.length : Int) - 1)).all id)) = false := h
          rw [List.all_map] at h
          have h : xs.all (fun d => withinD d 0 ((f.length : Int) - 1)) = true := by simpa using h
          have k' : ∀ post, Rr (.val (.bl (isOrdN f [] (xs.map natOf)))) post := fun post => kb k (by rw [h, Bool.true_and])
          have en := all_nats h
          clear k
          generalize xs.map natOf = l at en k'
          subst en
          rw [natsD_len] at hx
          refine ⟨fun i acc ρ => acc = ((List.range i).map fun j => (nextF f (l.take j)).contains (l.getD j 0)).map D.bl ∧ ρ = [.sh (fieldD f), .sh (.tup (natsD l)), .no, .no], ⟨rfl, rfl⟩, ?_, ?_⟩
          · rintro i d acc ρ hi ⟨x, hd, rfl⟩ ⟨rfl, rfl⟩
            have hi : i < (natsD l).length := hi
            rw [natsD_len] at hi
            have hv : l[i]? = some l[i] := List.getElem?_eq_getElem hi
            rw [nats_at hv] at hd
            cases hd
            refine ⟨rfl, rfl, fun _ => ⟨f, l.take i, ?_, by omega, fun post => ⟨⟨rfl, flat_nats _⟩, ?_⟩⟩, fun z => (by cases z)⟩
            · show [Sl.sh (fieldD f), Sl.sh (.tup (DL.cutD (natsD l) none (some (i : Int))))] = _
              rw [cut_to, natsD_take]
            · refine ⟨by rw [List.length_map, List.length_map, List.length_range]; omega, ?_, rfl⟩
              show _ ++ [D.bl ((natsD (nextF f (l.take i))).any fun y => PyData.eqv y.py (D.int ((l[i] : Nat) : Int)).py)] = _
              rw [eqv_any, List.range_succ, List.map_append, List.map_append]
              show _ = _ ++ [D.bl ((nextF f (l.take i)).contains (l.getD i 0))]
              rw [List.getD_eq_getElem?_getD, hv]
              rfl
          · rintro acc ρ ⟨rfl, rfl⟩
            refine ⟨_, rfl, kb k' ?_⟩
            rw [show (itE (natsD l)).n = l.length from natsD_len l, ord_all (Nat.le_refl _), List.take_length]
  | _ => exact ⟨fun _ => ⟨fun _ => k _, fun z => (by cases z)⟩, fun z => (by cases z)⟩
theorem isOrd_of {f : List (Option Nat)} {l : List Nat} (h : l ∈ ordersF f) : isOrdD f (.tup (natsD l)) = true := by
  obtain ⟨h1, h2⟩ := mem_exts.mp h
  have u : Up f l := ord_up Up.nil h2
  show (decide ((natsD l).length = f.length) && ((natsD l).all (fun d => withinD d 0 ((f.length : Int) - 1)) && isOrdN f [] ((natsD l).map natOf))) = true
  rw [natsD_len, decide_eq_true h1, natOf_nats, h2, Bool.and_true, Bool.true_and, List.all_eq_true]
  intro d hd
  obtain ⟨x, hx, rfl⟩ := List.mem_map.mp hd
  have := u.lt x hx
  exact decide_eq_true ⟨by omega, by omega⟩
/-! ### order_number -/
def partB (f : List (Option Nat)) (k : Nat) (S : List Nat) (p j : Nat) : Nat := ((((nextF f S).take j).filter fun q => decide (q < p)).map fun q => cntN f k (S ++ [q])).sum
theorem part_in {f : List (Option Nat)} {k : Nat} {S : List Nat} {p q j : Nat} (h : (nextF f S)[j]? = some q) (hq : q < p) : partB f k S p (j + 1) = partB f k S p j + cntN f k (S ++ [q]) := by
  unfold partB
  rw [take_snoc h, List.filter_append, List.map_append, List.sum_append]
  simp [hq]
theorem part_out {f : List (Option Nat)} {k : Nat} {S : List Nat} {p q j : Nat} (h : (nextF f S)[j]? = some q) (hq : ¬ q < p) : partB f k S p (j + 1) = partB f k S p j := by
  unfold partB
  rw [take_snoc h, List.filter_append, List.map_append, List.sum_append]
  simp [hq]
structure OnumP (aF aO : Addr) (as : List Sl) (Rr : Res → List Sl → Prop) : Prop where
  out : (∃ f e, as = [.sh (fieldD f), .sh e] ∧ FieldOk f ∧ nt e = true ∧ (∀ l, e = .tup (natsD l) → l ∈ ordersF f → ∀ post, Rr (.val (.int (rankN f f.length [] l : Nat))) post) ∧ (isOrdD f e = false → ∀ post, Rr (.er ⟨aO, []⟩) post)) ∨
    ∃ d e, as = [.sh d, .sh e] ∧ isFieldD d = false ∧ ∀ post, Rr (.er ⟨aF, []⟩) post
def sp_order_number (aF aO : Addr) : DSp := OnumP aF aO
theorem ord_of {f : List (Option Nat)} {e : D} (h : isOrdD f e = true) : ∃ l, e = .tup (natsD l) ∧ l ∈ ordersF f := by
  unfold isOrdD at h
  split at h
  · rename_i xs
    rw [Bool.and_eq_true, Bool.and_eq_true] at h
    obtain ⟨h1, h2, h3⟩ := h
    exact ⟨xs.map natOf, by rw [← all_nats h2], mem_exts.mpr ⟨by rw [List.length_map]; exact of_decide_eq_true h1, h3⟩⟩
  · cases h
theorem law_order_number {aF aO : Addr} (as : List Sl) (Rr : Res → List Sl → Prop) (h : sp_order_number aF aO as Rr) : t_order_number aO sp_next_ones sp_orders_by sp_sizes_of sp_is_order_of (sp_look_at_field aF) (fun er ρ => Rr (.er er) (outs as ρ)) (bodyEd as Rr) (as ++ List.replicate 7 .no) := by
  rcases OnumP.out h with ⟨f, e, rfl, ok, hnt, k1, k2⟩ | ⟨d, e, rfl, hd, k⟩
  · refine ⟨fieldD f, rfl, rfl, fun _ post => ⟨f, e, rfl, ok, hnt, fun post => ⟨fun h => ?_, fun h => ?_⟩⟩, fun z => (by rw [ok.is] at z; cases z)⟩
    · exact k2 (by simpa using h) _
    · have h : (!isOrdD f e) = false := h
      obtain ⟨l, rfl, hl⟩ := ord_of (by simpa using h)
      have k1 := k1 l rfl hl
      obtain ⟨hn, ho⟩ := mem_exts.mp hl
      have hm : (f.map optD).length = f.length := List.length_map _
      have hi60 := ok.hi
      have upt : ∀ t, Up f (l.take t) := fun t => by
        have e : l = l.take t ++ l.drop t := (List.take_append_drop t l).symm
        rw [e, ord_split, Bool.and_eq_true] at ho
        exact ord_up Up.nil ho.1
      refine ⟨f, rfl, ok, fun post => ⟨f, rfl, ok, fun post => ⟨fun t ρ => ∃ (F : Nat) (s5 s6 s7 s8 : Sl), ρ = [.sh (fieldD f), .sh (.tup (natsD l)), .sh (.lst (natsD (sizesF f))), .sh (.int (cntN f (f.length - t) (l.take t) : Nat)), .sh (.int (F : Int)), s5, s6, s7, s8] ∧ F + rankN f (f.length - t) (l.take t) (l.drop t) = rankN f f.length [] l, ⟨0, .no, .no, .no, .no, rfl, ?_⟩, ?_, ?_⟩⟩⟩
      · rw [Nat.zero_add, Nat.sub_zero]; rfl
      · rintro t d ρ ht ⟨x, hd, rfl⟩ ⟨F, s5, s6, s7, s8, rfl, hF⟩
        have ht : t < (natsD l).length := ht
        rw [natsD_len] at ht
        have hv : l[t]? = some l[t] := List.getElem?_eq_getElem ht
        have hdr := List.drop_eq_getElem_cons ht
        rw [nats_at hv] at hd
        cases hd
        generalize l[t] = p at hv hdr
        obtain ⟨q, hq⟩ : ∃ q, f.length - t = q + 1 := ⟨f.length - t - 1, by omega⟩
        have hp : okNext f (l.take t) p = true := by
          have e : l = l.take (t + 1) ++ l.drop (t + 1) := (List.take_append_drop (t + 1) l).symm
          rw [e, ord_split, Bool.and_eq_true, take_snoc hv, ord_split, Bool.and_eq_true] at ho
          have := ho.1.2
          simpa [isOrdN] using this
        have hlt : (l.take t).length = t := by rw [List.length_take]; omega
        have hq' : q + 1 + (l.take t).length = f.length := by rw [hlt]; omega
        have e1 : f.length - (t + 1) = q := by omega
        have et : l.take (t + 1) = l.take t ++ [p] := take_snoc hv
        have u := upt t
        rw [hq, hdr] at hF
        have hF : F + (baseN f q (l.take t) p + rankN f q (l.take t ++ [p]) (l.drop (t + 1))) = rankN f f.length [] l := hF
        rw [hq]
        have el : (((f.map optD).length : Nat) : Int) - (t : Int) = ((q + 1 : Nat) : Int) := by rw [hm]; omega
        generalize hS : l.take t = S at *
        refine ⟨rfl, rfl, trivial, f, S, ?_, by omega, fun post => ⟨fun j ρ => ∃ s8 : Sl, ρ = [.sh (fieldD f), .sh (.tup (natsD l)), .sh (.lst (natsD (sizesF f))), .sh (.int (cntN f (q + 1) S : Nat)), .sh (.int (F + partB f q S p j : Nat)), .sh (.int (t : Int)), .sh (.int (p : Int)), .sh (.int ((q + 1 : Nat) : Int)), s8], ⟨s8, ?_⟩, ?_, ?_⟩⟩
        · show [Sl.sh (fieldD f), Sl.sh (.tup (DL.cutD (natsD l) none (some (t : Int))))] = _
          rw [cut_to, natsD_take, hS]
        · show [_, _, _, _, Sl.sh (.int (F : Int)), _, _, Sl.sh (.int ((((f.map optD).length : Nat) : Int) - (t : Int))), _] = _
          rw [el]
          rfl
        · rintro j d ρ hj hd ⟨s8, rfl⟩
          have hd : (natsD (nextF f S))[j]? = some d := hd
          have hj : j < (natsD (nextF f S)).length := hj
          rw [natsD_len] at hj
          have hr : (nextF f S)[j]? = some (nextF f S)[j] := List.getElem?_eq_getElem hj
          rw [nats_at hr] at hd
          cases hd
          generalize (nextF f S)[j] = r at hr
          have hor := mem_next.mp (List.mem_of_getElem? hr)
          obtain ⟨c1, c2, c3⟩ := step_ok ok u hq' hor
          refine ⟨fun h => ?_, fun h => ?_⟩
          · have h : (r : Int) < (p : Int) := of_decide_eq_true h
            refine ⟨_, rfl, _, size_nats (okNext_lt hor), c1, c2, _, rfl, .sh (.int (r : Int)), ?_⟩
            show [_, _, _, _, Sl.sh (.int (((F + partB f q S p j : Nat) : Int) + (cntN f (q + 1) S : Int) * (sizeF f r : Nat) / ((q + 1 : Nat) : Int))), _, _, _, _] = _
            rw [c3, part_in hr (by omega), ← Nat.add_assoc, ← Int.natCast_add]
          · have h : ¬ (r : Int) < (p : Int) := of_decide_eq_false h
            refine ⟨.sh (.int (r : Int)), ?_⟩
            rw [part_out hr (by omega)]
            rfl
        · rintro ρ ⟨s8, rfl⟩
          obtain ⟨c1, c2, c3⟩ := step_ok ok u hq' hp
          refine ⟨_, size_nats (okNext_lt hp), c1, c2, F + baseN f q S p, .sh (.int (t : Int)), .sh (.int (p : Int)), .sh (.int ((q + 1 : Nat) : Int)), s8, ?_, ?_⟩
          · show [_, _, _, Sl.sh (.int ((cntN f (q + 1) S : Int) * (sizeF f p : Nat) / ((q + 1 : Nat) : Int))), Sl.sh (.int ((F + partB f q S p (natsD (nextF f S)).length : Nat) : Int)), _, _, _, _] = _
            rw [c3, e1, et, natsD_len]
            unfold partB
            rw [List.take_length]
            rfl
          · rw [e1, et, Nat.add_assoc]
            exact hF
      · rintro ρ ⟨F, s5, s6, s7, s8, rfl, hF⟩
        rw [show (itE (natsD l)).n = f.length from (natsD_len l).trans hn, Nat.sub_self] at hF
        refine ki k1 ?_
        rw [← hF]
        show ((F + 0 : Nat) : Int) = F
        rfl
  · exact ⟨d, rfl, nt_of hd, fun z => (by rw [hd] at z; cases z), fun _ post => k _⟩
end KB
/-! promises: the law's own count, fits, greedy -/
namespace KB
open PySem PySem.Spec PyProof.Rows L2 DL
theorem shd_nats {k : Nat} (a : List Nat) : Shd (k + 1) (.tup (natsD a)) := .tup fun d hd => by
  obtain ⟨x, _, rfl⟩ := List.mem_map.mp hd
  exact .int
theorem shd_natsL {k : Nat} (a : List Nat) : Shd (k + 1) (.lst (natsD a)) := .lst fun d hd => by
  obtain ⟨x, _, rfl⟩ := List.mem_map.mp hd
  exact .int
theorem nb_nats (a : List Nat) : nbs (natsD a) = true := nbs_all fun d hd => by
  obtain ⟨x, _, rfl⟩ := List.mem_map.mp hd
  rfl
/-! ### _law_count -/
def sp_lcount : DSp := fun as Rr => ∃ f, as = [.sh (fieldD f)] ∧ FieldOk f ∧ ∀ post, Rr (.val (.int (countF f : Nat))) post
theorem fac4 {n : Nat} (h : n ≤ 60) : fac n < 2 ^ 400 := Nat.lt_of_le_of_lt (fac_mono h) (Nat.lt_of_lt_of_le fac60 (Nat.pow_le_pow_right (by decide) (by decide)))
theorem law__count (as : List Sl) (Rr : Res → List Sl → Prop) (h : sp_lcount as Rr) : t__law_count sp_sizes_of (fun er ρ => Rr (.er er) (outs as ρ)) (bodyEd as Rr) (as ++ List.replicate 3 .no) := by
  obtain ⟨f, rfl, ok, k⟩ := h
  have hm : (f.map optD).length = f.length := List.length_map _
  have hl := ok.hi
  have hlo := ok.lo
  refine ⟨⟨by decide, by decide, by rw [hm]; omega, by rw [hm]; omega⟩, fun i ρ => ∃ s2, ρ = [.sh (fieldD f), .sh (.int (fac (i + 1) : Nat)), s2, .no], ⟨.no, rfl⟩, ?_, ?_⟩
  · rintro i d ρ hi rfl ⟨s2, rfl⟩
    have hi : i < ((((f.map optD).length : Nat) : Int) + 1 - 2).toNat := hi
    rw [hm] at hi
    refine ⟨cmul4 (by omega) (nat4 (fac4 (by omega))) (by omega) (Int.lt_of_le_of_lt (show (2 : Int) + (i : Int) ≤ 60 by omega) (by decide)), .sh (.int (2 + (i : Int))), ?_⟩
    show [_, Sl.sh (.int (((fac (i + 1) : Nat) : Int) * (2 + (i : Int)))), _, _] = [_, Sl.sh (.int (((i + 1 + 1) * fac (i + 1) : Nat) : Int)), _, _]
    rw [Int.natCast_mul, Int.mul_comm, show (2 : Int) + (i : Int) = ((i + 1 + 1 : Nat) : Int) by omega]
  · rintro ρ ⟨s2, rfl⟩
    rw [show (itR 2 ((((f.map optD).length : Nat) : Int) + 1 - 2).toNat).n + 1 = f.length from by show ((((f.map optD).length : Nat) : Int) + 1 - 2).toNat + 1 = _; rw [hm]; omega]
    refine ⟨f, rfl, ok, fun post => ⟨fun i ρ => ∃ s3, ρ = [.sh (fieldD f), .sh (.int ((countF f * prodL ((sizesF f).drop i) : Nat) : Int)), s2, s3], ⟨.no, ?_⟩, ?_, ?_⟩⟩
    · rw [List.drop_zero, count_eq ok]
    · rintro i d ρ hi hd ⟨s3, rfl⟩
      have hd : (natsD (sizesF f))[i]? = some d := hd
      have hi : i < (natsD (sizesF f)).length := hi
      rw [natsD_len] at hi
      have hv : (sizesF f)[i]? = some (sizesF f)[i] := List.getElem?_eq_getElem hi
      have hdr := List.drop_eq_getElem_cons hi
      rw [nats_at hv] at hd
      cases hd
      have hx := sizes_ok ok _ (List.mem_of_getElem? hv)
      generalize (sizesF f)[i] = x at hv hdr hx
      refine ⟨cdiv4 (by omega) (Int.lt_of_le_of_lt (show (x : Int) ≤ 60 by omega) (by decide)), .sh (.int (x : Int)), ?_⟩
      rw [hdr]
      show [_, Sl.sh (.int (((countF f * (x * prodL ((sizesF f).drop (i + 1))) : Nat) : Int) / (x : Int))), _, _] = _
      rw [← Int.natCast_ediv, Nat.mul_left_comm, Nat.mul_div_cancel_left _ hx.1]
    · rintro ρ ⟨s3, rfl⟩
      refine ki k ?_
      rw [show (itL (natsD (sizesF f))).n = (sizesF f).length from natsD_len _, List.drop_length]
      show _ = ((countF f * 1 : Nat) : Int)
      rw [Nat.mul_one]
/-! ### _law_greedy -/
def sp_greedy : DSp := fun as Rr => ∃ f b, as = [.sh (fieldD f), .sh (.bl b)] ∧ FieldOk f ∧ ∀ post, Rr (.val (.tup (natsD (endF f b f.length [])))) post
theorem kt {Rr : Res → List Sl → Prop} {l m : List Nat} {post : List Sl} (k : ∀ post, Rr (.val (.tup (natsD l))) post) (e : l = m) : Rr (.val (.tup (natsD m))) post := e ▸ k post
theorem law__greedy (as : List Sl) (Rr : Res → List Sl → Prop) (h : sp_greedy as Rr) : t__law_greedy (fun er ρ => Rr (.er er) (outs as ρ)) (bodyEd as Rr) (as ++ List.replicate 5 .no) := by
  obtain ⟨f, b, rfl, ok, k⟩ := h
  have hm : (f.map optD).length = f.length := List.length_map _
  have hl := ok.hi
  refine ⟨fun t ρ => ∃ (S : List Nat) (s3 s4 : Sl), ρ = [.sh (fieldD f), .sh (.bl b), .sh (.tup (natsD S)), s3, s4, .no, .no] ∧ Up f S ∧ S.length = t ∧ t ≤ f.length ∧ S ++ endF f b (f.length - t) S = endF f b f.length [], ⟨[], .no, .no, rfl, Up.nil, rfl, by omega, by rw [Nat.sub_zero]; rfl⟩, ?_, ?_⟩
  · rintro t d ρ ht hd ⟨S, s3, s4, rfl, u, hS, htl, he⟩
    have ht : t < (f.map optD).length := ht
    rw [hm] at ht
    obtain ⟨q, hq⟩ : ∃ q, f.length - t = q + 1 := ⟨f.length - t - 1, by omega⟩
    rw [hq] at he
    have hq' : q + 1 + S.length = f.length := by omega
    refine ⟨fun i acc ρ => acc = natsD ((List.range i).filter (okNext f S)) ∧ ρ = [.sh (fieldD f), .sh (.bl b), .sh (.tup (natsD S)), .sh d, s4, .no, .no], ⟨rfl, rfl⟩, ?_, ?_⟩
    · rintro i d' acc ρ hi ⟨x, hx, rfl⟩ ⟨rfl, rfl⟩
      obtain ⟨o, ho, rfl⟩ := opt_at hx
      have hi : i < (f.map optD).length := hi
      refine ⟨rfl, rfl, ?_⟩
      refine okT (f := f) (S := S) (p := i) (o := o) (ρ := [.sh (fieldD f), .sh (.bl b), .sh (.tup (natsD S)), .sh d, s4, .sh (.int (i : Int)), .sh (optD o)]) (a := 5) (b := 6) (c := 2) rfl rfl rfl ho ?_
      refine ⟨fun h => ?_, fun h => ?_⟩
      · refine ⟨Nat.lt_of_le_of_lt filt_len (by omega), ?_, rfl⟩
        rw [filt_in h]
      · refine ⟨?_, rfl⟩
        rw [filt_out h]
    · rintro acc ρ ⟨rfl, rfl⟩
      rw [show (itE (f.map optD)).n = f.length from hm]
      have hne := next_ne ok u hq'
      have go : ∀ p, okNext f S p = true → S ++ [p] ++ endF f b q (S ++ [p]) = endF f b f.length [] →
          ∃ (S' : List Nat) (s3' s4' : Sl), [Sl.sh (fieldD f), .sh (.bl b), .sh (.tup (natsD S ++ [.int (p : Int)])), .sh d, .ow true (natsD (nextF f S)), .no, .no] = [.sh (fieldD f), .sh (.bl b), .sh (.tup (natsD S')), s3', s4', .no, .no] ∧ Up f S' ∧ S'.length = t + 1 ∧ t + 1 ≤ f.length ∧ S' ++ endF f b (f.length - (t + 1)) S' = endF f b f.length [] := fun p hp e => by
        refine ⟨S ++ [p], .sh d, .ow true (natsD (nextF f S)), ?_, u.snoc hp, by rw [List.length_append, hS]; rfl, by omega, ?_⟩
        · unfold natsD; rw [List.map_append]; rfl
        · rw [show f.length - (t + 1) = q by omega]; exact e
      have bound : (natsD S).length + 1 ≤ 16777216 := by rw [natsD_len]; omega
      rw [endF_succ] at he
      cases b with
      | true =>
        obtain ⟨L, p, e⟩ : ∃ L p, nextF f S = L ++ [p] := ⟨_, _, (List.dropLast_concat_getLast hne).symm⟩
        have hp : okNext f S p = true := mem_next.mp (by rw [e]; simp)
        rw [if_pos rfl, e, List.getLast?_concat] at he
        have a1 : atI (natsD (nextF f S)) (-1) = some (.int (p : Int)) := by
          rw [e]
          unfold natsD
          rw [List.map_append]
          exact atI_last _ _
        refine ⟨fun _ => ⟨_, a1, ⟨bound, ?_⟩⟩, fun z => (by cases z)⟩
        exact go p hp (by rw [List.append_assoc]; exact he)
      | false =>
        obtain ⟨p, L, e⟩ := List.exists_cons_of_ne_nil hne
        have hp : okNext f S p = true := mem_next.mp (by rw [e]; exact List.mem_cons_self)
        rw [if_neg (by decide), e, List.head?_cons] at he
        have a1 : atI (natsD (nextF f S)) 0 = some (.int (p : Int)) := by rw [e]; exact atI_nat (j := 0) rfl
        refine ⟨fun z => (by cases z), fun _ => ⟨_, a1, ⟨bound, ?_⟩⟩⟩
        exact go p hp (by rw [List.append_assoc]; exact he)
  · rintro ρ ⟨S, s3, s4, rfl, u, hS, htl, he⟩
    rw [show (itL (f.map optD)).n = f.length from hm, Nat.sub_self] at he
    refine kt k ?_
    rw [← he]
    exact List.append_nil S
/-! ### _law_fits -/
section
variable {κ α : Type} [DecidableEq κ]
theorem merge_out {k : Key} : ∀ {more acc : List (Key × D)}, (∀ x ∈ more, x.1 ≠ k) → valG (mergeG acc more) k = valG acc k
  | [], _, _ => rfl
  | p :: r, acc, h => by
    show valG (mergeG (putG acc p.1 p.2) r) k = _
    rw [merge_out fun x hx => h x (List.mem_cons_of_mem _ hx), valG_put, if_neg (fun z => h p List.mem_cons_self z.symm)]
theorem merge_in {k : Key} {v : D} : ∀ {more acc : List (Key × D)}, (more.map (·.1)).Nodup → (k, v) ∈ more → valG (mergeG acc more) k = some v
  | p :: r, acc, nd, h => by
    rw [List.map_cons, List.nodup_cons] at nd
    show valG (mergeG (putG acc p.1 p.2) r) k = _
    rcases List.mem_cons.mp h with rfl | h
    · rw [merge_out fun x hx e => nd.1 (List.mem_map.mpr ⟨x, hx, e⟩), valG_put, if_pos rfl]
    · exact merge_in nd.2 h
end
/-- the spots of a row -/
def spotK (l : List Nat) (i : Nat) : List (Key × D) := (List.range i).map fun j => (.inl ((l.getD j 0 : Nat) : Int), .int (j : Int))
theorem spot_get {l : List Nat} (nd : l.Nodup) {j x : Nat} (h : l[j]? = some x) : valG (mergeG [] (spotK l l.length)) (.inl (x : Int)) = some (.int (j : Int)) := by
  obtain ⟨hj, e⟩ := List.getElem?_eq_some_iff.mp h
  refine merge_in ?_ (List.mem_map.mpr ⟨j, List.mem_range.mpr hj, by rw [List.getD_eq_getElem?_getD, h]; rfl⟩)
  unfold spotK
  rw [List.map_map]
  have e2 : (List.range l.length).map ((fun kv : Key × D => kv.1) ∘ fun j => (Sum.inl ((l.getD j 0 : Nat) : Int), D.int (j : Int))) = l.map fun x : Nat => (Sum.inl (x : Int) : Key) := by
    refine List.ext_getElem (by simp) fun i h1 h2 => ?_
    simp only [List.getElem_map, List.getElem_range, Function.comp_apply]
    rw [List.getD_eq_getElem?_getD, List.getElem?_eq_getElem (by simpa using h2)]
    rfl
  rw [e2]
  exact List.Pairwise.map _ (fun a b (hab : a ≠ b) z => hab (by injection z with z; omega)) nd
theorem sorted_perm : ∀ {l m : List Int}, l.Perm m → l.Pairwise (· ≤ ·) → m.Pairwise (· ≤ ·) → l = m := fun hp h1 h2 =>
  hp.eq_of_pairwise (fun a b _ _ => Int.le_antisymm) h1 h2
def sp_fits : DSp := fun as Rr => ∃ f l, as = [.sh (fieldD f), .sh (.tup (natsD l))] ∧ FieldOk f ∧ l ∈ ordersF f ∧ ∀ post, Rr (.val (.bl true)) post
theorem ord_perm {f : List (Option Nat)} {l : List Nat} (h : l ∈ ordersF f) : Up f l ∧ l.length = f.length ∧ l.Perm (List.range f.length) := by
  obtain ⟨h1, h2⟩ := mem_exts.mp h
  have u : Up f l := ord_up Up.nil h2
  refine ⟨u, h1, nodup_perm u.nd List.nodup_range fun a => ⟨fun ha => List.mem_range.mpr (u.lt a ha), fun ha => ?_⟩⟩
  have hr := rest_len u
  have e : restL f l = [] := List.eq_nil_of_length_eq_zero (by omega)
  by_cases hh : a ∈ l
  · exact hh
  · have := mem_rest.mpr ⟨List.mem_range.mp ha, hh⟩
    rw [e] at this
    cases this
theorem ord_pos {f : List (Option Nat)} {l : List Nat} (h : l ∈ ordersF f) {j x : Nat} (hx : l[j]? = some x) : okNext f (l.take j) x = true := by
  obtain ⟨h1, h2⟩ := mem_exts.mp h
  have e : l = l.take (j + 1) ++ l.drop (j + 1) := (List.take_append_drop (j + 1) l).symm
  rw [e, ord_split, Bool.and_eq_true, take_snoc hx, ord_split, Bool.and_eq_true] at h2
  have := h2.1.2
  simpa [isOrdN] using this
theorem ints_nats (l : List Nat) : natsD l = (l.map fun n : Nat => (n : Int)).map D.int := by unfold natsD; rw [List.map_map]; rfl
theorem rg_nats (n : Nat) : rgD 0 (n : Int) = natsD (List.range n) := by
  unfold rgD natsD
  rw [show ((n : Int) - 0).toNat = n by omega]
  refine List.map_congr_left fun i _ => ?_
  congr 1
  omega
theorem law__fits (as : List Sl) (Rr : Res → List Sl → Prop) (h : sp_fits as Rr) : t__law_fits_2 (fun er ρ => Rr (.er er) (outs as ρ)) (bodyEd as Rr) (as ++ List.replicate 4 .no) := by
  obtain ⟨f, l, rfl, ok, hl, k⟩ := h
  have hm : (f.map optD).length = f.length := List.length_map _
  have hi60 := ok.hi
  obtain ⟨u, hn, hp⟩ := ord_perm hl
  have shd : ∀ ms : List Nat, SeqAt.shaped (D.lst (natsD ms)).py = true := fun ms => (shd_natsL (k := 63) ms).shaped
  refine ⟨_, l.map fun n : Nat => (n : Int), rfl, .inr (by rw [← ints_nats]), fun ns' hp' hs => ⟨RgOk.of_le (by decide) (by rw [hm]; omega) (by decide) (by rw [hm]; omega), ?_⟩⟩
  have e1 : ns' = (List.range f.length).map fun n : Nat => (n : Int) := sorted_perm (hp'.trans (hp.map _)) hs (by
    rw [List.pairwise_map]
    exact List.pairwise_lt_range.imp fun {a b} h => by omega)
  subst e1
  have e2 : ((List.range f.length).map fun n : Nat => (n : Int)).map D.int = natsD (List.range f.length) := (ints_nats _).symm
  have e3 : rgD 0 (((f.map optD).length : Nat) : Int) = natsD (List.range f.length) := by rw [hm, rg_nats]
  rw [e2, e3]
  refine ⟨⟨shd _, shd _⟩, fun h => ?_, fun _ => ?_⟩
  · have h : (!PyData.eqv (D.lst (natsD (List.range f.length))).py (D.lst (natsD (List.range f.length))).py) = true := h
    rw [eqv_true (d := D.lst (natsD (List.range f.length))) (by exact nb_nats _) (by exact nb_nats _) rfl] at h
    cases h
  · refine ⟨fun i acc ρ => acc = (spotK l i).map (fun kv => .tup [keyDat kv.1, kv.2]) ∧ ρ = [.sh (fieldD f), .sh (.tup (natsD l)), .no, .no, .no, .no], ⟨rfl, rfl⟩, ?_, ?_⟩
    · rintro i d acc ρ hi ⟨x, hx, rfl⟩ ⟨rfl, rfl⟩
      have hi : i < (natsD l).length := hi
      rw [natsD_len] at hi
      have hv : l[i]? = some l[i] := List.getElem?_eq_getElem hi
      rw [nats_at hv] at hx
      cases hx
      refine ⟨rfl, rfl, fun _ => ⟨?_, ?_, rfl⟩, fun z => (by cases z)⟩
      · unfold spotK; rw [List.length_map, List.length_map, List.length_range]; omega
      · unfold spotK
        rw [List.range_succ, List.map_append, List.map_append]
        show _ = _ ++ [D.tup [D.int ((l.getD i 0 : Nat) : Int), .int (i : Int)]]
        rw [List.getD_eq_getElem?_getD, hv]
        rfl
    · rintro acc ρ ⟨rfl, rfl⟩
      rw [show (itE (natsD l)).n = l.length from natsD_len l]
      refine ⟨spotK l l.length, rfl, fun i acc ρ => acc = [] ∧ ρ = [.sh (fieldD f), .sh (.tup (natsD l)), .dk true (mergeG [] (spotK l l.length)), .no, .no, .no], ⟨rfl, rfl⟩, ?_, ?_⟩
      · rintro i d acc ρ hi ⟨x, hx, rfl⟩ ⟨rfl, rfl⟩
        obtain ⟨o, ho, rfl⟩ := opt_at hx
        have hi : i < (f.map optD).length := hi
        rw [hm] at hi
        refine ⟨rfl, rfl, ?_⟩
        cases o with
        | none => exact ⟨fun z => (by cases z), fun _ => ⟨fun z => (by cases z), fun _ => ⟨rfl, rfl⟩⟩⟩
        | some q =>
          obtain ⟨jp, hjp⟩ := List.getElem?_of_mem (hp.mem_iff.mpr (List.mem_range.mpr hi))
          have hq : q ∈ l.take jp := okNext_above (ord_pos hl hjp) ho
          obtain ⟨jt, hjt⟩ := List.getElem?_of_mem hq
          have hlt : jt < jp := by
            have := (List.getElem?_eq_some_iff.mp hjt).1
            rw [List.length_take] at this
            omega
          rw [List.getElem?_take_of_lt hlt] at hjt
          refine ⟨fun _ => ⟨rfl, _, rfl, _, spot_get u.nd hjt, rfl, _, rfl, _, spot_get u.nd hjp, ?_⟩, fun z => (by cases z)⟩
          refine ⟨fun z => ?_, fun _ => ⟨rfl, rfl⟩⟩
          have z : decide ((jp : Int) < (jt : Int)) = true := z
          have := of_decide_eq_true z
          omega
      · rintro acc ρ ⟨rfl, rfl⟩
        exact ⟨⟨shd [], shd []⟩, k _⟩
end KB
namespace DL
open PySem L2
/-- all below n, each once -/
structure PermOk (l : List Nat) (n : Nat) : Prop where
  len : l.length = n
  lt : ∀ x ∈ l, x < n
  all : ∀ x, x < n → x ∈ l
  nd : l.Nodup
theorem PermOk.ins {l : List Nat} {n r : Nat} (h : PermOk l n) : PermOk (l.take r ++ [n] ++ l.drop r) (n + 1) := by
  have hp : List.Perm (l.take r ++ [n] ++ l.drop r) (n :: l) := by
    have h1 : List.Perm (l.take r ++ [n] ++ l.drop r) ([n] ++ l.take r ++ l.drop r) := List.Perm.append_right _ List.perm_append_comm
    have e : [n] ++ l.take r ++ l.drop r = n :: l := by
      rw [List.append_assoc, List.take_append_drop]; rfl
    rw [e] at h1
    exact h1
  refine ⟨by rw [hp.length_eq, List.length_cons, h.len], fun x hx => ?_, fun x hx => ?_, ?_⟩
  · rcases List.mem_cons.mp (hp.mem_iff.mp hx) with rfl | hx
    · omega
    · have := h.lt x hx; omega
  · refine hp.mem_iff.mpr (List.mem_cons.mpr ?_)
    by_cases e : x = n
    · exact .inl e
    · exact .inr (h.all x (by omega))
  · exact hp.nodup_iff.mpr (List.nodup_cons.mpr ⟨fun z => absurd (h.lt n z) (by omega), h.nd⟩)
/-- whoever stands under one comes later in l -/
def RankOk (l : List Nat) (f : List (Option Nat)) : Prop := ∀ (x p : Nat), f[x]? = some (some p) → ∃ (kx px : Nat), px < kx ∧ l[kx]? = some x ∧ l[px]? = some p
theorem RankOk.field {l : List Nat} {f : List (Option Nat)} (h : RankOk l f) (hl : PermOk l f.length) (h1 : 1 ≤ f.length) (h2 : f.length ≤ 60) : FieldOk f := by
  refine ⟨h1, h2, fun i p hf => ?_, fun i hi => ?_⟩
  · obtain ⟨kx, px, _, _, e⟩ := h i p hf
    exact hl.lt p (List.mem_of_getElem? e)
  · have key : ∀ k x, l[k]? = some x → comesN f (k + 1) x = true := by
      intro k
      induction k using Nat.strongRecOn with
      | ind k ih =>
        intro x hx
        have hxl : x < f.length := hl.lt x (List.mem_of_getElem? hx)
        have hfx : f[x]? = some f[x] := List.getElem?_eq_getElem hxl
        cases hv : f[x] with
        | none => rw [hv] at hfx; simp [comesN, hfx]
        | some p =>
          rw [hv] at hfx
          obtain ⟨kx, px, hlt, e1, e2⟩ := h x p hfx
          have hk : kx = k := by
            have a1 := (List.getElem?_eq_some_iff.mp e1)
            have a2 := (List.getElem?_eq_some_iff.mp hx)
            obtain ⟨b1, c1⟩ := a1
            obtain ⟨b2, c2⟩ := a2
            exact (List.getElem_inj hl.nd).mp (c1.trans c2.symm)
          subst hk
          have := ih px hlt p e2
          show comesN f (kx + 1) x = true
          unfold comesN
          rw [hfx]
          exact comesN_mono (by omega) this
    obtain ⟨k, hk⟩ := List.getElem?_of_mem (hl.all i hi)
    have hkl := (List.getElem?_eq_some_iff.mp hk).1
    rw [hl.len] at hkl
    exact comesN_mono (by omega) (key k i hk)
theorem RankOk.set {l : List Nat} {f : List (Option Nat)} (h : RankOk l f) {k a x p : Nat} (hka : a < k) (hx : l[k]? = some x) (hp : l[a]? = some p) : RankOk l (f.set x (some p)) := fun y q hy => by
  by_cases e : x = y
  · subst e
    have hl : x < (f.set x (some p)).length := (List.getElem?_eq_some_iff.mp hy).1
    rw [List.length_set] at hl
    rw [List.getElem?_set_self hl] at hy
    cases hy
    exact ⟨k, a, hka, hx, hp⟩
  · rw [List.getElem?_set_ne e] at hy
    exact h y q hy
theorem opt_set (f : List (Option Nat)) (x p : Nat) : (f.map optD).set x (.int (p : Int)) = (f.set x (some p)).map optD := by
  rw [List.map_set]
  rfl
end DL
namespace KB
open PySem PySem.Spec PyProof.Rows L2 DL
def sp_field : DSp := fun as Rr => ∃ (n : Nat) (m : Int), as = [.bg false n, .sh (.int m)] ∧ 1 ≤ m ∧ m ≤ 60 ∧ n ≤ 9000000000 ∧ ∀ f n', FieldOk f → (f.length : Int) ≤ m → n' ≤ n + 1000 → Rr (.val (fieldD f)) [.bg false n', .no]
theorem at6 {k w : Int} {e0 e1 e2 e3 e4 e5 : Int} (h0 : 0 ≤ e0 ∧ e0 < k) (h1 : 0 ≤ e1 ∧ e1 < k) (h2 : 0 ≤ e2 ∧ e2 < k) (h3 : 0 ≤ e3 ∧ e3 < k) (h4 : 0 ≤ e4 ∧ e4 < k) (h5 : 0 ≤ e5 ∧ e5 < k) (w0 : 0 ≤ w) (w1 : w < 6) :
    ∃ a : Nat, (a : Int) < k ∧ atI ([D.int e0, .int e1, .int e2, .int e3] ++ [.int e4, .int e5]) w = some (.int (a : Int)) := by
  have nn : ∀ e : Int, 0 ≤ e ∧ e < k → ∃ a : Nat, (a : Int) < k ∧ e = (a : Int) := fun e h => ⟨e.toNat, by omega, by omega⟩
  obtain ⟨v, rfl⟩ := Int.eq_ofNat_of_zero_le w0
  obtain ⟨a0, l0, rfl⟩ := nn _ h0
  obtain ⟨a1, l1, rfl⟩ := nn _ h1
  obtain ⟨a2, l2, rfl⟩ := nn _ h2
  obtain ⟨a3, l3, rfl⟩ := nn _ h3
  obtain ⟨a4, l4, rfl⟩ := nn _ h4
  obtain ⟨a5, l5, rfl⟩ := nn _ h5
  rcases v with _ | _ | _ | _ | _ | _ | v
  · exact ⟨a0, l0, rfl⟩
  · exact ⟨a1, l1, rfl⟩
  · exact ⟨a2, l2, rfl⟩
  · exact ⟨a3, l3, rfl⟩
  · exact ⟨a4, l4, rfl⟩
  · exact ⟨a5, l5, rfl⟩
  · omega
theorem at9 {w : Int} (w0 : 0 ≤ w) (w1 : w < 6) : ∃ a : Int, 0 < a ∧ a ≤ 9 ∧ atI [D.int 9, .int 9, .int 9, .int 6, .int 5, .int 2] w = some (.int a) := by
  obtain ⟨v, rfl⟩ := Int.eq_ofNat_of_zero_le w0
  rcases v with _ | _ | _ | _ | _ | _ | v
  · exact ⟨9, by decide, by decide, rfl⟩
  · exact ⟨9, by decide, by decide, rfl⟩
  · exact ⟨9, by decide, by decide, rfl⟩
  · exact ⟨6, by decide, by decide, rfl⟩
  · exact ⟨5, by decide, by decide, rfl⟩
  · exact ⟨2, by decide, by decide, rfl⟩
  · omega
theorem law__field (as : List Sl) (Rr : Res → List Sl → Prop) (h : sp_field as Rr) : t__law_field sp_take (fun er ρ => Rr (.er er) (outs as ρ)) (bodyEd as Rr) (as ++ List.replicate 8 .no) := by
  obtain ⟨n, m, rfl, hm0, hm1, hn, k⟩ := h
  refine ⟨_, rfl, rfl, n, m, rfl, by omega, by omega, by omega, fun r1 n1 a0 a1 a2 => ⟨_, rfl, rfl, n1, 6, rfl, by decide, by decide, by omega, fun w n2 b0 b1 b2 => ?_⟩⟩
  obtain ⟨r1, rfl⟩ := Int.eq_ofNat_of_zero_le a0
  refine ⟨⟨by omega, by omega⟩, fun i ρ => ∃ (n' : Nat) (ord : List Nat) (s3 : Sl), ρ = [.bg false n', .sh (.int m), .ow true (natsD ord), s3, .no, .no, .sh (.int (1 + (r1 : Int))), .sh (.int w), .no, .no] ∧ PermOk ord i ∧ n' ≤ n + 2 + i, ⟨n2, [], .no, rfl, ⟨rfl, fun x hx => (by cases hx), fun x hx => absurd hx (by omega), List.nodup_nil⟩, by omega⟩, ?_, ?_⟩
  · rintro i d ρ hi rfl ⟨n', ord, s3, rfl, hp, hn'⟩
    have hi : i < ((1 : Int) + (r1 : Int)).toNat := hi
    have ho := hp.len
    have hno := natsD_len ord
    refine ⟨rfl, _, rfl, rfl, n', ((natsD ord).length : Int) + 1, rfl, by omega, by omega, by omega, fun r n3 c0 c1 c2 => ⟨⟨by omega, c0, by omega⟩, n3, ord.take r.toNat ++ [i] ++ ord.drop r.toNat, .sh (.int (0 + (i : Int))), ?_, hp.ins, by omega⟩⟩
    show [Sl.bg false n3, .sh (.int m), .ow true ((natsD ord).take r.toNat ++ [D.int (0 + (i : Int))] ++ (natsD ord).drop r.toNat), _, _, _, _, _, _, _] = _
    rw [Int.zero_add]
    unfold natsD
    rw [List.map_append, List.map_append, List.map_take, List.map_drop]
    rfl
  · rintro ρ ⟨n', ord, s3, rfl, hp, hn'⟩
    have et : ((1 : Int) + (r1 : Int)).toNat = 1 + r1 := by omega
    have hp : PermOk ord ((1 : Int) + (r1 : Int)).toNat := hp
    have hn' : n' ≤ n + 2 + ((1 : Int) + (r1 : Int)).toNat := hn'
    rw [et] at hp hn'
    refine ⟨⟨by omega, by omega, by show 1 * ((1 : Int) + (r1 : Int)).toNat ≤ _; omega⟩, ⟨by omega, by omega, by omega, by omega⟩,
      fun i ρ => ∃ (n' : Nat) (f : List (Option Nat)) (s5 s8 s9 : Sl), ρ = [.bg false n', .sh (.int m), .ow true (natsD ord), s3, .ow true (f.map optD), s5, .sh (.int (1 + (r1 : Int))), .sh (.int w), s8, s9] ∧ f.length = 1 + r1 ∧ RankOk ord f ∧ n' ≤ n + 3 + r1 + 4 * i,
      ⟨n', List.replicate (1 + r1) none, .no, .no, .no, ?_, List.length_replicate, fun x p hx => ?_, by omega⟩, ?_, ?_⟩
    · show [Sl.bg false n', .sh (.int m), .ow true (natsD ord), s3, .ow true (List.replicate ((1 : Int) + (r1 : Int)).toNat [D.non]).flatten, _, _, _, _, _] = _
      rw [et, List.flatten_replicate_singleton, List.map_replicate]
      rfl
    · rw [List.getElem?_replicate] at hx
      split at hx <;> cases hx
    · rintro i d ρ hi rfl ⟨n', f, s5, s8, s9, rfl, hfl, hr, hn'⟩
      have hi : i < ((1 : Int) + (r1 : Int) - 1).toNat := hi
      have hi : i < r1 := by omega
      refine ⟨trivial, trivial, _, rfl, rfl, n', 3, rfl, by decide, by decide, by omega, fun r3 n3 c0 c1 c2 => ⟨trivial, trivial, cdiv (by decide) (by decide), _, rfl, rfl, n3, 1 + (i : Int), rfl, by omega, by omega, by omega, fun r4 n4 d0 d1 d2 => ⟨_, rfl, rfl, n4, 1 + (i : Int), rfl, by omega, by omega, by omega, fun r5 n5 e0 e1 e2 => ?_⟩⟩⟩
      obtain ⟨a, ha, hat⟩ := at6 (k := 1 + (i : Int)) (w := w) (e0 := 1 + (i : Int) - 1) (e1 := 0) (e2 := max 0 (1 + (i : Int) - 1 - r3)) (e3 := (1 + (i : Int) - 1) / 2) (e4 := r4) (e5 := r5) (by omega) (by omega) (by omega) (by omega) ⟨d0, d1⟩ ⟨e0, e1⟩ b0 b1
      obtain ⟨x, hok⟩ : ∃ x, ord[1 + i]? = some x := ⟨_, List.getElem?_eq_getElem (by rw [hp.len]; omega)⟩
      obtain ⟨q, hoa⟩ : ∃ x, ord[a]? = some x := ⟨_, List.getElem?_eq_getElem (by rw [hp.len]; omega)⟩
      have hxl := hp.lt x (List.mem_of_getElem? hok)
      have iok : atI (natsD ord) (1 + (i : Int)) = some (.int (x : Int)) := by
        have := atI_nat (nats_at hok)
        rwa [show ((1 + i : Nat) : Int) = 1 + (i : Int) by omega] at this
      have sto : ∀ n6, n6 ≤ n5 + 1 → ∀ (E : Ed), (∀ ρ, (∃ (n' : Nat) (f : List (Option Nat)) (s5 s8 s9 : Sl), ρ = [.bg false n', .sh (.int m), .ow true (natsD ord), s3, .ow true (f.map optD), s5, .sh (.int (1 + (r1 : Int))), .sh (.int w), s8, s9] ∧ f.length = 1 + r1 ∧ RankOk ord f ∧ n' ≤ n + 3 + r1 + 4 * (i + 1)) → E.nx ρ) →
          rSto 4 (rBin ixD (rVar 2) (rVar 5)) (rBin ixD (rVar 2) (rVar 9)) E [.bg false n6, .sh (.int m), .ow true (natsD ord), s3, .ow true (f.map optD), .sh (.int (1 + (i : Int))), .sh (.int (1 + (r1 : Int))), .sh (.int w), .ow true [.int (1 + (i : Int) - 1), .int 0, .int (max 0 (1 + (i : Int) - 1 - r3)), .int ((1 + (i : Int) - 1) / 2)], .sh (.int (a : Int))] := fun n6 h6 E hE => by
        refine ⟨_, atI_nat (nats_at hoa), rfl, _, iok, x, ?_, hE _ ⟨n6, f.set x (some q), .sh (.int (1 + (i : Int))), .ow true [.int (1 + (i : Int) - 1), .int 0, .int (max 0 (1 + (i : Int) - 1 - r3)), .int ((1 + (i : Int) - 1) / 2)], .sh (.int (a : Int)), ?_, by rw [List.length_set]; exact hfl, hr.set (by omega) hok hoa, by omega⟩⟩
        · show ixN (f.map optD).length (x : Int) = some x
          rw [List.length_map, hfl]
          unfold ixN
          rw [if_pos (by omega), if_pos (by omega)]
          simp
        · rw [← opt_set]
          rfl
      refine ⟨by show 4 + 2 ≤ 16777216; omega, _, hat, fun hw => ⟨fun _ => sto n5 (by omega) _ fun ρ h => h, fun z => (by cases z)⟩, fun hw => ?_⟩
      obtain ⟨z, z0, z1, hz⟩ := at9 b0 b1
      refine ⟨_, hz, _, rfl, rfl, n5, z, rfl, z0, by omega, by omega, fun r6 n6 f0 f1 f2 => ⟨fun h => sto n6 f2 _ fun ρ h => h, fun h => ?_⟩⟩
      exact ⟨n6, f, _, _, _, rfl, hfl, hr, by omega⟩
    · rintro ρ ⟨n', f, s5, s8, s9, rfl, hfl, hr, hn'⟩
      have hn' : n' ≤ n + 3 + r1 + 4 * ((1 : Int) + (r1 : Int) - 1).toNat := hn'
      have ht : ((1 : Int) + (r1 : Int) - 1).toNat = r1 := by omega
      rw [ht] at hn'
      refine k f n' (hr.field (by rw [hfl]; exact hp) (by omega) (by omega)) (by omega) (by omega)
end KB
/-! promises: all orders, a mixed row -/
namespace KB
open PySem PySem.Spec PyProof.Rows L2 DL
theorem exts_snoc {f : List (Option Nat)} : ∀ (k : Nat) (S : List Nat), extsN f (k + 1) S = (extsN f k S).flatMap fun r => (nextF f (S ++ r)).map fun p => r ++ [p]
  | 0, S => by
    show (nextF f S).flatMap (fun p => [[p]]) = (nextF f (S ++ [])).map (fun p => [] ++ [p]) ++ []
    rw [List.append_nil, List.append_nil]
    generalize nextF f S = l
    induction l with
    | nil => rfl
    | cons a l ih => rw [List.flatMap_cons, ih]; rfl
  | k + 1, S => by
    show ((nextF f S).flatMap fun p => (extsN f (k + 1) (S ++ [p])).map (p :: ·)) = ((nextF f S).flatMap fun p => (extsN f k (S ++ [p])).map (p :: ·)).flatMap _
    rw [List.flatMap_assoc]
    congr 1
    funext p
    rw [exts_snoc k (S ++ [p]), List.map_flatMap, List.flatMap_map]
    congr 1
    funext r
    rw [List.map_map]
    have e : S ++ [p] ++ r = S ++ p :: r := by simp
    rw [e]
    rfl
theorem exts_len {f : List (Option Nat)} {k : Nat} {S l : List Nat} (h : l ∈ extsN f k S) : l.length = k := (mem_exts.mp h).1
theorem next_len {f : List (Option Nat)} {S : List Nat} : (nextF f S).length ≤ f.length := by
  unfold nextF
  have := List.length_filter_le (okNext f S) (List.range f.length)
  rwa [List.length_range] at this
def longF (f : List (Option Nat)) (l : List (List Nat)) : List (List Nat) := l.flatMap fun r => (nextF f r).map fun p => r ++ [p]
theorem long_len {f : List (Option Nat)} : ∀ l : List (List Nat), (longF f l).length ≤ l.length * f.length
  | [] => Nat.zero_le _
  | a :: l => by
    unfold longF
    rw [List.flatMap_cons, List.length_append, List.length_map, List.length_cons, Nat.succ_mul]
    have := long_len (f := f) l
    have := next_len (f := f) (S := a)
    unfold longF at *
    omega
theorem long_exts {f : List (Option Nat)} {k : Nat} : longF f (extsN f k []) = extsN f (k + 1) [] := by
  rw [exts_snoc]
  rfl
theorem exts_card {f : List (Option Nat)} (hf : f.length ≤ 6) : ∀ k : Nat, (extsN f k []).length ≤ 6 ^ k
  | 0 => Nat.le_refl _
  | k + 1 => by
    rw [← long_exts, Nat.pow_succ]
    exact Nat.le_trans (long_len _) (Nat.mul_le_mul (exts_card hf k) hf)
def rowsN (l : List (List Nat)) : List D := l.map fun r => .tux true (natsD r)
theorem rowsN_app (a b : List (List Nat)) : rowsN (a ++ b) = rowsN a ++ rowsN b := by unfold rowsN; rw [List.map_append]
theorem rowsN_len (a : List (List Nat)) : (rowsN a).length = a.length := by unfold rowsN; rw [List.length_map]
def sp_lorders : DSp := fun as Rr => ∃ f, as = [.sh (fieldD f)] ∧ FieldOk f ∧ f.length ≤ 6 ∧ ∀ post, Rr (.val (.lst (rowsN (ordersF f)))) post
theorem law__orders (as : List Sl) (Rr : Res → List Sl → Prop) (h : sp_lorders as Rr) : t__law_orders_2 (fun er ρ => Rr (.er er) (outs as ρ)) (bodyEd as Rr) (as ++ List.replicate 6 .no) := by
  obtain ⟨f, rfl, ok, hf, k⟩ := h
  have hm : (f.map optD).length = f.length := List.length_map _
  have card : ∀ t, t ≤ 6 → (extsN f t []).length ≤ 46656 := fun t ht => Nat.le_trans (exts_card hf t) (Nat.pow_le_pow_right (by decide) ht)
  refine ⟨fun t ρ => ∃ s1 s2 s3 s4 s5 s6, ρ = [.sh (fieldD f), s1, s2, s3, s4, s5, s6] ∧ IsL s1 (rowsN (extsN f t [])) ∧ t ≤ f.length ∧ (0 < t → s1 = .sh (.lst (rowsN (extsN f t [])))), ⟨_, .no, .no, .no, .no, .no, rfl, .inr rfl, Nat.zero_le _, fun z => absurd z (by decide)⟩, ?_, ?_⟩
  · rintro t d ρ ht hd ⟨s1, s2, s3, s4, s5, s6, rfl, h1, htl, h2⟩
    have ht : t < (f.map optD).length := ht
    rw [hm] at ht
    have hc := card t (by omega)
    have hL : ∀ S ∈ extsN f t [], S.length = t := fun S hS => exts_len hS
    generalize hG : extsN f t [] = L at *
    have main : (rFor (iSeq (rVar 1)) (gNm 4) (rFor (iEnm (rCons (rVar 0) rNil)) (gTp 2 (gCn (gNm 5) (gCn (gNm 6) gNl))) (rIfS (rAndT (rTst (rBin (inD true) (rVar 5) (rWk (rVar 4)))) (rOrT (rTst (rBin (isN false) (rVar 6) (rC .non))) (rTst (rBin (inD false) (rVar 6) (rWk (rVar 4)))))) (rDrop (rMet 3 appF (rCons (rBin addXD (rVar 4) (rTupX (rCons (rVar 5) rNil))) rNil))) rNext)))
        { (bodyEd [.sh (fieldD f)] Rr) with nx := fun ρ => ∃ s4 s5 s6, ρ = [.sh (fieldD f), .sh (.lst (rowsN L)), .sh d, .ow true (rowsN (longF f L)), s4, s5, s6] } [.sh (fieldD f), .sh (.lst (rowsN L)), .sh d, .ow true [], s4, s5, s6] := by
      refine ⟨fun i ρ => ∃ s4 s5 s6, ρ = [.sh (fieldD f), .sh (.lst (rowsN L)), .sh d, .ow true (rowsN (longF f (L.take i))), s4, s5, s6], ⟨s4, s5, s6, rfl⟩, ?_, ?_⟩
      · rintro i d' ρ hi hd' ⟨s4, s5, s6, rfl⟩
        have hi : i < (rowsN L).length := hi
        rw [rowsN_len] at hi
        have hd' : (rowsN L)[i]? = some d' := hd'
        have hv : L[i]? = some L[i] := List.getElem?_eq_getElem hi
        unfold rowsN at hd'
        rw [List.getElem?_map, hv] at hd'
        cases hd'
        have hS := hL _ (List.mem_of_getElem? hv)
        generalize L[i] = S at hv hS
        have hb : (longF f (L.take i)).length ≤ 46656 * 6 := by
          refine Nat.le_trans (long_len _) (Nat.mul_le_mul (Nat.le_trans (by rw [List.length_take]; exact Nat.min_le_right _ _) hc) hf)
        refine ⟨fun j ρ => ∃ s5 s6, ρ = [.sh (fieldD f), .sh (.lst (rowsN L)), .sh d, .ow true (rowsN (longF f (L.take i) ++ ((List.range j).filter (okNext f S)).map fun p => S ++ [p])), .sh (.tux true (natsD S)), s5, s6], ⟨s5, s6, ?_⟩, ?_, ?_⟩
        · rw [List.range_zero, List.filter_nil, List.map_nil, List.append_nil]
          rfl
        · rintro j d' ρ hj ⟨x, hx, rfl⟩ ⟨s5, s6, rfl⟩
          obtain ⟨o, ho, rfl⟩ := opt_at hx
          have hj : j < (f.map optD).length := hj
          have fl : ((List.range j).filter (okNext f S)).length ≤ j := by
            have := List.length_filter_le (okNext f S) (List.range j)
            rwa [List.length_range] at this
          refine ⟨rfl, rfl, ?_⟩
          refine okTW (f := f) (S := S) (p := j) (o := o) (ρ := [.sh (fieldD f), .sh (.lst (rowsN L)), .sh d, .ow true (rowsN (longF f (L.take i) ++ ((List.range j).filter (okNext f S)).map fun p => S ++ [p])), .sh (.tux true (natsD S)), .sh (.int (j : Int)), .sh (optD o)]) (a := 5) (b := 6) (c := 4) rfl rfl rfl ho ?_
          refine ⟨fun h => ?_, fun h => ?_⟩
          · refine ⟨rfl, ⟨by rw [natsD_len]; show S.length + 1 ≤ _; omega, ⟨by rw [rowsN_len, List.length_append, List.length_map]; omega, .sh (.int (j : Int)), .sh (optD o), ?_⟩⟩⟩
            rw [filt_snoc, if_pos h, List.map_append, ← List.append_assoc, rowsN_app (longF f (L.take i) ++ _)]
            have e : natsD (S ++ [j]) = natsD S ++ [.int (j : Int)] := by unfold natsD; rw [List.map_append]; rfl
            have e2 : rowsN ([j].map fun p => S ++ [p]) = [.tux true (natsD S ++ [.int (j : Int)])] := by
              show [D.tux true (natsD (S ++ [j]))] = _
              rw [e]
            rw [e2]
            rfl
          · refine ⟨.sh (.int (j : Int)), .sh (optD o), ?_⟩
            rw [filt_snoc, if_neg (by rw [h]; decide), List.append_nil]
        · rintro ρ ⟨s5, s6, rfl⟩
          refine ⟨.sh (.tux true (natsD S)), s5, s6, ?_⟩
          rw [show (itE (f.map optD)).n = f.length from hm, List.take_add_one, hv]
          unfold longF
          rw [List.flatMap_append]
          simp [nextF]
      · rintro ρ ⟨s4, s5, s6, rfl⟩
        rw [show L.take (itL (rowsN L)).n = L from by rw [show (itL (rowsN L)).n = L.length from rowsN_len _, List.take_length]]
        exact ⟨_, _, _, rfl⟩
    have fin : ∀ ρ, (∃ s4 s5 s6, ρ = [Sl.sh (fieldD f), .sh (.lst (rowsN L)), .sh d, .ow true (rowsN (longF f L)), s4, s5, s6]) → (rSet 1 (rVar 3)) { (bodyEd [.sh (fieldD f)] Rr) with nx := fun ρ => ∃ s1 s2 s3 s4 s5 s6, ρ = [.sh (fieldD f), s1, s2, s3, s4, s5, s6] ∧ IsL s1 (rowsN (extsN f (t + 1) [])) ∧ t + 1 ≤ f.length ∧ (0 < t + 1 → s1 = .sh (.lst (rowsN (extsN f (t + 1) [])))) } ρ := by
      rintro ρ ⟨s4, s5, s6, rfl⟩
      have e : extsN f (t + 1) [] = longF f L := by rw [← long_exts, hG]
      exact ⟨_, _, _, _, _, _, rfl, .inl (by rw [e]), ht, fun _ => by rw [e]⟩
    obtain ⟨I, i0, step, fin0⟩ := main
    rcases h1 with rfl | rfl
    · exact ⟨I, i0, step, fun ρ hI => fin ρ (fin0 ρ hI)⟩
    · exact ⟨I, i0, step, fun ρ hI => fin ρ (fin0 ρ hI)⟩
  · rintro ρ ⟨s1, s2, s3, s4, s5, s6, rfl, h1, htl, h2⟩
    rw [show (itL (f.map optD)).n = f.length from hm] at h2
    obtain rfl := h2 ok.lo
    exact k _
/-! ### _law_mixed -/
def sp_mixed : DSp := fun as Rr => ∃ (n m : Nat), as = [.bg false n, .sh (.int (m : Int))] ∧ m ≤ 60 ∧ n ≤ 9000000000 ∧ ∀ (l : List Nat) n', l.length = m → n' ≤ n + 100 → Rr (.val (.tup (natsD l))) [.bg false n', .no]
theorem law__mixed (as : List Sl) (Rr : Res → List Sl → Prop) (h : sp_mixed as Rr) : t__law_mixed sp_take (fun er ρ => Rr (.er er) (outs as ρ)) (bodyEd as Rr) (as ++ List.replicate 2 .no) := by
  obtain ⟨n, m, rfl, hm, hn, k⟩ := h
  refine ⟨⟨by omega, by omega⟩, fun i ρ => ∃ (n' : Nat) (ord : List Nat) (s3 : Sl), ρ = [.bg false n', .sh (.int (m : Int)), .ow true (natsD ord), s3] ∧ ord.length = i ∧ n' ≤ n + i, ⟨n, [], .no, rfl, rfl, by omega⟩, ?_, ?_⟩
  · rintro i d ρ hi rfl ⟨n', ord, s3, rfl, hp, hn'⟩
    have hi : i < (m : Int).toNat := hi
    have hno := natsD_len ord
    refine ⟨rfl, _, rfl, rfl, n', ((natsD ord).length : Int) + 1, rfl, by omega, by omega, by omega, fun r n3 c0 c1 c2 => ⟨⟨by omega, c0, by omega⟩, n3, ord.take r.toNat ++ [i] ++ ord.drop r.toNat, .sh (.int (0 + (i : Int))), ?_, ?_, by omega⟩⟩
    · show [Sl.bg false n3, .sh (.int (m : Int)), .ow true ((natsD ord).take r.toNat ++ [D.int (0 + (i : Int))] ++ (natsD ord).drop r.toNat), _] = _
      rw [Int.zero_add]
      unfold natsD
      rw [List.map_append, List.map_append, List.map_take, List.map_drop]
      rfl
    · rw [List.length_append, List.length_append, List.length_take, List.length_drop]
      simp
      omega
  · rintro ρ ⟨n', ord, s3, rfl, hp, hn'⟩
    have hp : ord.length = (m : Int).toNat := hp
    have hn' : n' ≤ n + (m : Int).toNat := hn'
    exact k ord n' (by omega) (by omega)
end KB
/-! promises: share_ahead of anything; words for laws' ends -/
namespace KB
open PySem PySem.Spec PyProof.Rows L2 DL
theorem ne_word {x : Str} {P : Prop} (z : (!PyData.eqv (D.tup [.str x]).py (D.tup [.str x]).py) = true) : P := by
  rw [eqv_true rfl rfl rfl] at z
  cases z
theorem natsD_inj {l m : List Nat} (h : natsD l = natsD m) : l = m := by
  have := congrArg (List.map natOf) h
  rwa [natOf_nats, natOf_nats] at this
theorem okd_tupN (l : List Nat) (h : l.length ≤ 1000) : okd 3 (.tup (natsD l)) := ⟨by rw [natsD_len]; omega, fun x hx => by obtain ⟨y, _, rfl⟩ := List.mem_map.mp hx; trivial⟩
theorem okd_lstN (l : List Nat) (h : l.length ≤ 1000) : okd 3 (.lst (natsD l)) := ⟨by rw [natsD_len]; omega, fun x hx => by obtain ⟨y, _, rfl⟩ := List.mem_map.mp hx; trivial⟩
theorem okd_fr (p : Nat × Nat) : okd 3 (frD p) := ⟨by show 2 ≤ 1000000; decide, fun x hx => by
  simp at hx
  rcases hx with rfl | rfl <;> trivial⟩
theorem okd_fr_shd (p : Nat × Nat) : SeqAt.shaped (frD p).py = true := (Shd.tup (k := 63) fun d hd => by
  simp at hd
  rcases hd with rfl | rfl <;> exact .int).shaped
theorem lt2_60' {a : Nat} (h : a ≤ 720) : Lt2 a 9000 := ⟨Nat.lt_of_le_of_lt h (Nat.lt_of_lt_of_le (show 720 < 2 ^ 10 by decide) (Nat.pow_le_pow_right (by decide) (by decide)))⟩
/-- share_ahead of a field's players; refused otherwise -/
structure ShP (aF aP : Addr) (as : List Sl) (Rr : Res → List Sl → Prop) : Prop where
  out : (∃ (f : List (Option Nat)) (i j : Nat), as = [.sh (fieldD f), .sh (.int i), .sh (.int j)] ∧ FieldOk f ∧ i < f.length ∧ j < f.length ∧ CellOk (downF f i j) (downF f j i) ∧ ∀ post, Rr (.val (frD (shareF f i j))) post) ∨
    (∃ (f : List (Option Nat)) (d e : D), as = [.sh (fieldD f), .sh d, .sh e] ∧ FieldOk f ∧ withinD d 0 ((f.length : Int) - 1) = false ∧ ∀ post, Rr (.er ⟨aP, []⟩) post) ∨
    (∃ (f : List (Option Nat)) (d e : D), as = [.sh (fieldD f), .sh d, .sh e] ∧ FieldOk f ∧ withinD d 0 ((f.length : Int) - 1) = true ∧ withinD e 0 ((f.length : Int) - 1) = false ∧ ∀ post, Rr (.er ⟨aP, []⟩) post) ∨
    ∃ (c d e : D), as = [.sh c, .sh d, .sh e] ∧ isFieldD c = false ∧ ∀ post, Rr (.er ⟨aF, []⟩) post
def sp_shareE (aF aP : Addr) : DSp := ShP aF aP
theorem law_shareE {aF aP : Addr} (as : List Sl) (Rr : Res → List Sl → Prop) (h : sp_shareE aF aP as Rr) : t_share_ahead sp_race_of sp_sizes_of sp_wayA (sp_look_at_one aP) (sp_look_at_field aF) (fun er ρ => Rr (.er er) (outs as ρ)) (bodyEd as Rr) (as ++ List.replicate 6 .no) := by
  rcases ShP.out h with ⟨f, i, j, rfl, ok, hi, hj, hp, k⟩ | ⟨f, d, e, rfl, ok, hd, k⟩ | ⟨f, d, e, rfl, ok, hd, he, k⟩ | ⟨c, d, e, rfl, hc, k⟩
  · exact law_share_ahead _ Rr ⟨f, i, j, rfl, ok, hi, hj, hp, k⟩
  · have hm : (f.map optD).length = f.length := List.length_map _
    have hw : withinD d 0 (((f.map optD).length : Int) - 1) = false := by rw [hm]; exact hd
    exact ⟨_, rfl, rfl, fun _ _ => ⟨_, _, rfl, fun z => is_not z hw, fun _ post => k _⟩, is_not ok.is⟩
  · have hm : (f.map optD).length = f.length := List.length_map _
    have hw : withinD d 0 (((f.map optD).length : Int) - 1) = true := by rw [hm]; exact hd
    have hv : withinD e 0 (((f.map optD).length : Int) - 1) = false := by rw [hm]; exact he
    exact ⟨_, rfl, rfl, fun _ _ => ⟨_, _, rfl, fun _ _ => ⟨_, _, rfl, fun z => is_not z hv, fun _ post => k _⟩, is_not hw⟩, is_not ok.is⟩
  · exact ⟨_, rfl, nt_of hc, fun z => is_not z hc, fun _ post => k _⟩
end KB
/-! races: scaled, summed, of ones -/
namespace DL
open PySem L2
theorem redF_scale {t n d : Nat} (ht : 0 < t) : redF (t * n) (t * d) = redF n d := by
  unfold redF
  rw [Nat.gcd_mul_left, Nat.mul_div_mul_left _ _ ht, Nat.mul_div_mul_left _ _ ht]
theorem getD_scale (t : Nat) (l : List Nat) (i : Nat) : (l.map fun x => t * x).getD i 0 = t * l.getD i 0 := by
  rw [List.getD_eq_getElem?_getD, List.getD_eq_getElem?_getD, List.getElem?_map]
  cases l[i]? <;> simp
theorem cell_scale {t : Nat} (ht : 0 < t) (a b : List Nat) : ∀ (n i j : Nat), i + j = n → cellF (a.map fun x => t * x) (b.map fun x => t * x) i j = cellF a b i j
  | _, 0, j, _ => by rw [cell0, cell0]
  | _, i + 1, 0, _ => by rw [cell1, cell1]
  | 0, i + 1, j + 1, h => by omega
  | n + 1, i + 1, j + 1, h => by
    rw [cell2, cell2, cell_scale ht a b n i (j + 1) (by omega), cell_scale ht a b n (i + 1) j (by omega), getD_scale, getD_scale]
    generalize cellF a b i (j + 1) = c1
    generalize cellF a b (i + 1) j = c2
    generalize a.getD i 0 = x
    generalize b.getD j 0 = y
    rw [show t * x * c1.1 * c2.2 + t * y * c2.1 * c1.2 = t * (x * c1.1 * c2.2 + y * c2.1 * c1.2) by grind, show (t * x + t * y) * c1.2 * c2.2 = t * ((x + y) * c1.2 * c2.2) by grind, redF_scale ht]
theorem race_scale {t : Nat} (ht : 0 < t) (a b : List Nat) : raceF (a.map fun x => t * x) (b.map fun x => t * x) = raceF a b := by
  unfold raceF
  rw [← List.map_reverse, ← List.map_reverse, List.length_map, List.length_map, cell_scale ht _ _ _ _ _ rfl]
theorem cell_cop {a b : List Nat} (ha : ∀ x ∈ a, 0 < x) : ∀ (n i j : Nat), i + j = n → i ≤ a.length → Nat.gcd (cellF a b i j).1 (cellF a b i j).2 = 1
  | _, 0, j, _, _ => by rw [cell0]; rfl
  | _, i + 1, 0, _, _ => by rw [cell1]; rfl
  | 0, i + 1, j + 1, h, _ => by omega
  | n + 1, i + 1, j + 1, h, hi => by
    obtain ⟨p1, _, _⟩ := cell_ok (b := b) ha n i (j + 1) (by omega) (by omega)
    obtain ⟨q1, _, _⟩ := cell_ok (b := b) ha n (i + 1) j (by omega) hi
    rw [cell2]
    have hx : 0 < a.getD i 0 := by
      rw [List.getD_eq_getElem?_getD, List.getElem?_eq_getElem (by omega)]
      exact ha _ (List.getElem_mem (by omega))
    unfold redF
    exact Nat.coprime_div_gcd_div_gcd (Nat.gcd_pos_of_pos_right _ (Nat.mul_pos (Nat.mul_pos (by omega) p1) q1))
/-- a race of a row against itself -/
theorem race_self {a : List Nat} (ha : ∀ x ∈ a, 0 < x) (hn : a ≠ []) : raceF a a = (1, 2) := by
  have ha' : ∀ x ∈ a.reverse, 0 < x := fun x hx => ha x (by simpa using hx)
  have hl : 0 < a.length := List.length_pos_iff.mpr hn
  have s := cell_sum ha' ha' (a.length + a.length) a.length a.length rfl (by omega) (by rw [List.length_reverse]; omega) (by rw [List.length_reverse]; omega)
  have g := cell_cop (b := a.reverse) ha' (a.length + a.length) a.length a.length rfl (by rw [List.length_reverse]; omega)
  obtain ⟨p1, p2, _⟩ := cell_ok (b := a.reverse) ha' (a.length + a.length) a.length a.length rfl (by rw [List.length_reverse]; omega)
  unfold raceF
  generalize cellF a.reverse a.reverse a.length a.length = c at s g p1
  obtain ⟨p, q⟩ := c
  simp only at s g p1
  have e : 2 * p = q := by
    have : q * (2 * p) = q * q := by grind
    exact Nat.eq_of_mul_eq_mul_left p1 this
  have g2 : Nat.gcd p q = p := Nat.gcd_eq_left ⟨2, by omega⟩
  rw [g] at g2
  rw [← e, ← g2]
theorem race_sum {a b : List Nat} (ha : ∀ x ∈ a, 0 < x) (hb : ∀ x ∈ b, 0 < x) (hn : 0 < a.length + b.length) :
    (raceF a b).1 * (raceF b a).2 + (raceF b a).1 * (raceF a b).2 = (raceF a b).2 * (raceF b a).2 :=
  cell_sum (fun x hx => ha x (by simpa using hx)) (fun x hx => hb x (by simpa using hx)) (a.length + b.length) a.length b.length rfl hn (by rw [List.length_reverse]; omega) (by rw [List.length_reverse]; omega)
theorem race_ok {a : List Nat} (b : List Nat) (ha : ∀ x ∈ a, 0 < x) : 0 < (raceF a b).2 ∧ (raceF a b).1 ≤ (raceF a b).2 :=
  let ⟨h1, h2, _⟩ := cell_ok (b := b.reverse) (fun x hx => ha x (by simpa using hx) : ∀ x ∈ a.reverse, 0 < x) _ a.length b.length rfl (by rw [List.length_reverse]; omega)
  ⟨h1, h2⟩
/-- rows of ones: the numbers are short -/
theorem cell_ones {n m : Nat} : ∀ (k i j : Nat), i + j = k → i ≤ n → j ≤ m → 0 < (cellF (List.replicate n 1) (List.replicate m 1) i j).2 ∧ (cellF (List.replicate n 1) (List.replicate m 1) i j).1 ≤ (cellF (List.replicate n 1) (List.replicate m 1) i j).2 ∧ (cellF (List.replicate n 1) (List.replicate m 1) i j).2 ∣ 2 ^ k
  | k, 0, j, _, _, _ => by rw [cell0]; exact ⟨by decide, by decide, Nat.one_dvd _⟩
  | k, i + 1, 0, _, _, _ => by rw [cell1]; exact ⟨by decide, by decide, Nat.one_dvd _⟩
  | 0, i + 1, j + 1, h, _, _ => by omega
  | k + 1, i + 1, j + 1, h, hi, hj => by
    obtain ⟨p1, p2, ⟨u, hu⟩⟩ := cell_ones (n := n) (m := m) k i (j + 1) (by omega) (by omega) hj
    obtain ⟨q1, q2, ⟨v, hv⟩⟩ := cell_ones (n := n) (m := m) k (i + 1) j (by omega) hi (by omega)
    rw [cell2]
    have e1 : (List.replicate n 1).getD i 0 = 1 := by rw [List.getD_eq_getElem?_getD, List.getElem?_replicate, if_pos (by omega)]; rfl
    have e2 : (List.replicate m 1).getD j 0 = 1 := by rw [List.getD_eq_getElem?_getD, List.getElem?_replicate, if_pos (by omega)]; rfl
    rw [e1, e2]
    generalize cellF (List.replicate n 1) (List.replicate m 1) i (j + 1) = c1 at p1 p2 hu ⊢
    generalize cellF (List.replicate n 1) (List.replicate m 1) (i + 1) j = c2 at q1 q2 hv ⊢
    obtain ⟨p, q⟩ := c1
    obtain ⟨r, s⟩ := c2
    simp only at p1 p2 hu q1 q2 hv ⊢
    refine redF_spec (Nat.mul_pos (Nat.mul_pos (by omega) p1) q1) ?_ ?_ (Nat.pow_pos (by omega))
    · have e1 : p * s ≤ q * s := Nat.mul_le_mul_right _ p2
      have e2 : r * q ≤ s * q := Nat.mul_le_mul_right _ q2
      have e3 : s * q = q * s := Nat.mul_comm _ _
      have e4 : (1 + 1) * q * s = q * s + q * s := by grind
      rw [Nat.one_mul, Nat.one_mul]
      omega
    · rw [Nat.pow_succ]
      refine ⟨u * p + v * r, ?_⟩
      have k1 : 2 ^ k * 2 * (1 * p * s + 1 * r * q) = 2 * (2 ^ k * (p * s)) + 2 * (2 ^ k * (r * q)) := by grind
      rw [k1]
      have k2 : 2 ^ k * (p * s) = q * u * (p * s) := by rw [hu]
      have k3 : 2 ^ k * (r * q) = s * v * (r * q) := by rw [hv]
      rw [k2, k3]
      grind
theorem lt2_ones {n m i j : Nat} (hn : n ≤ 60) (hm : m ≤ 60) (hi : i ≤ n) (hj : j ≤ m) : Lt2 (cellF (List.replicate n 1) (List.replicate m 1) i j).2 4201 := by
  obtain ⟨_, _, h⟩ := cell_ones (n := n) (m := m) (i + j) i j rfl hi hj
  have h2 := Nat.le_of_dvd (Nat.pow_pos (by omega)) h
  exact ⟨Nat.lt_of_le_of_lt h2 (Nat.pow_lt_pow_right (by omega) (by omega))⟩
end DL
/-! a weighed mean of three kinds of turns -/
namespace DL
def sumI : List Nat → (Nat → Int) → Int
  | [], _ => 0
  | a :: l, g => g a + sumI l g
theorem sumI_cast (t : Nat → Nat) : ∀ l : List Nat, (((l.map t).sum : Nat) : Int) = sumI l fun x => (t x : Int)
  | [] => rfl
  | a :: l => by
    rw [List.map_cons, List.sum_cons, Int.natCast_add, sumI_cast t l]
    rfl
theorem sumI_lin (g h : Nat → Int) (a b : Int) : ∀ l : List Nat, sumI l (fun x => a * g x - b * h x) = a * sumI l g - b * sumI l h
  | [] => by simp [sumI]
  | x :: l => by
    unfold sumI
    rw [sumI_lin g h a b l]
    grind
theorem sumI_zero {g : Nat → Int} : ∀ {l : List Nat}, (∀ x ∈ l, g x = 0) → sumI l g = 0
  | [], _ => rfl
  | a :: l, h => by
    unfold sumI
    rw [h a List.mem_cons_self, sumI_zero fun x hx => h x (List.mem_cons_of_mem _ hx)]
    rfl
theorem sumI_one {g : Nat → Int} {p : Nat} : ∀ {l : List Nat}, l.Nodup → p ∈ l → (∀ x ∈ l, x ≠ p → g x = 0) → sumI l g = g p
  | a :: l, nd, hp, h => by
    rw [List.nodup_cons] at nd
    unfold sumI
    by_cases e : a = p
    · subst e
      rw [sumI_zero fun x hx => h x (List.mem_cons_of_mem _ hx) fun z => nd.1 (z ▸ hx), Int.add_zero]
    · rw [h a List.mem_cons_self e, sumI_one nd.2 ((List.mem_cons.mp hp).resolve_left fun z => e z.symm) fun x hx => h x (List.mem_cons_of_mem _ hx), Int.zero_add]
theorem sumI_two {g : Nat → Int} {p q : Nat} (hpq : p ≠ q) : ∀ {l : List Nat}, l.Nodup → p ∈ l → q ∈ l → (∀ x ∈ l, x ≠ p → x ≠ q → g x = 0) → sumI l g = g p + g q
  | a :: l, nd, hp, hq, h => by
    rw [List.nodup_cons] at nd
    unfold sumI
    by_cases e : a = p
    · subst e
      have hq' : q ∈ l := (List.mem_cons.mp hq).resolve_left fun z => hpq z.symm
      rw [sumI_one nd.2 hq' fun x hx hxq => h x (List.mem_cons_of_mem _ hx) (fun z => nd.1 (z ▸ hx)) hxq]
    · have hp' : p ∈ l := (List.mem_cons.mp hp).resolve_left fun z => e z.symm
      by_cases e2 : a = q
      · subst e2
        rw [sumI_one nd.2 hp' fun x hx hxp => h x (List.mem_cons_of_mem _ hx) hxp fun z => nd.1 (z ▸ hx), Int.add_comm]
      · have hq' : q ∈ l := (List.mem_cons.mp hq).resolve_left fun z => e2 z.symm
        rw [h a List.mem_cons_self e e2, sumI_two hpq nd.2 hp' hq' fun x hx => h x (List.mem_cons_of_mem _ hx), Int.zero_add]
theorem weigh {L : List Nat} {t s c : Nat → Nat} {C K n0 d0 n1 d1 n2 d2 p q : Nat} (nd : L.Nodup) (hp : p ∈ L) (hq : q ∈ L) (hpq : p ≠ q) (h1 : ∀ x ∈ L, C * s x = K * c x)
    (tp : t p * d1 = n1 * c p) (tq : t q * d2 = n2 * c q) (to : ∀ x ∈ L, x ≠ p → x ≠ q → t x * d0 = n0 * c x) (hs : (L.map s).sum = K)
    (hr : n0 * ((s p + s q) * d1 * d2) = (s p * n1 * d2 + s q * n2 * d1) * d0) (p1 : 0 < d1) (p2 : 0 < d2) (pK : 0 < K) : (L.map t).sum * d0 = n0 * C := by
  have key : sumI L (fun x => ((K : Int) * d0 * d1 * d2) * (t x : Int) - ((n0 : Int) * d1 * d2 * C) * (s x : Int)) = 0 := by
    rw [sumI_two hpq nd hp hq fun x hx xp xq => ?_]
    · have a1 : (C : Int) * s p = K * c p := by have := h1 p hp; rw [← Int.natCast_mul, this, Int.natCast_mul]
      have a2 : (C : Int) * s q = K * c q := by have := h1 q hq; rw [← Int.natCast_mul, this, Int.natCast_mul]
      have b1 : (t p : Int) * d1 = n1 * c p := by rw [← Int.natCast_mul, tp, Int.natCast_mul]
      have b2 : (t q : Int) * d2 = n2 * c q := by rw [← Int.natCast_mul, tq, Int.natCast_mul]
      have r : (n0 : Int) * (((s p : Int) + s q) * d1 * d2) = ((s p : Int) * n1 * d2 + s q * n2 * d1) * d0 := by
        have := congrArg (fun z : Nat => (z : Int)) hr
        simpa [Int.natCast_mul, Int.natCast_add] using this
      have e1 : (K : Int) * d0 * d1 * d2 * t p = d0 * d2 * n1 * (C * s p) := by rw [a1]; grind
      have e2 : (K : Int) * d0 * d1 * d2 * t q = d0 * d1 * n2 * (C * s q) := by rw [a2]; grind
      rw [e1, e2]
      grind
    · have a1 : (C : Int) * s x = K * c x := by have := h1 x hx; rw [← Int.natCast_mul, this, Int.natCast_mul]
      have b1 : (t x : Int) * d0 = n0 * c x := by rw [← Int.natCast_mul, to x hx xp xq, Int.natCast_mul]
      have e1 : (K : Int) * d0 * d1 * d2 * t x = d1 * d2 * n0 * (C * s x) := by rw [a1]; grind
      rw [e1]
      grind
  rw [sumI_lin, ← sumI_cast, ← sumI_cast, hs] at key
  have e : (K * d1 * d2) * ((L.map t).sum * d0) = (K * d1 * d2) * (n0 * C) := by
    have : ((K : Int) * d1 * d2) * (((L.map t).sum : Nat) * d0) = ((K : Int) * d1 * d2) * (n0 * C) := by grind
    have h2 : (((K * d1 * d2) * ((L.map t).sum * d0) : Nat) : Int) = (((K * d1 * d2) * (n0 * C) : Nat) : Int) := by simpa [Int.natCast_mul] using this
    exact Int.ofNat_inj.mp h2
  exact Nat.eq_of_mul_eq_mul_left (Nat.mul_pos (Nat.mul_pos pK p1) p2) e
end DL
/-! of all orders, those with i ahead of j: as the race of the sizes -/
namespace DL
open PySem L2
section
variable {f : List (Option Nat)} {S : List Nat} {p i j : Nat}
theorem up_closed (ok : FieldOk f) (u : Up f S) : ∀ x, x < f.length → x ∈ S → ∀ y ∈ wayF f x, y ∈ S := by
  refine up_ind ok (fun x e hx y hy => ?_) fun x q e ih hx y hy => ?_
  · rw [wayF_none e] at hy
    simp at hy
    rw [hy]; exact hx
  · rw [wayF_some ok e] at hy
    rcases List.mem_cons.mp hy with rfl | hy
    · exact hx
    · exact ih (u.cl x hx q e) y hy
theorem some_lt {α : Type} {l : List α} {i : Nat} {x : α} (h : l[i]? = some x) : i < l.length := (List.getElem?_eq_some_iff.mp h).1
theorem way_in (ok : FieldOk f) : ∀ i, i < f.length → p ∈ wayF f i → ∃ L, wayF f i = L ++ wayF f p ∧ ∀ x ∈ L, p ∈ wayF f x ∧ x < f.length := by
  refine up_ind ok (fun i e hp => ?_) fun i q e ih hp => ?_
  · rw [wayF_none e] at hp
    simp at hp
    subst hp
    exact ⟨[], rfl, by simp⟩
  · rw [wayF_some ok e] at hp
    rcases List.mem_cons.mp hp with rfl | hp'
    · exact ⟨[], rfl, by simp⟩
    · obtain ⟨L, h1, h2⟩ := ih hp'
      refine ⟨i :: L, by rw [wayF_some ok e, h1]; rfl, fun x hx => ?_⟩
      rcases List.mem_cons.mp hx with rfl | hx
      · exact ⟨by rw [wayF_some ok e]; exact List.mem_cons_of_mem _ hp', some_lt e⟩
      · exact h2 x hx
theorem way_split (ok : FieldOk f) (u : Up f S) (hi : i < f.length) (hp : p ∈ wayF f i) (hn : okNext f S p = true) : ∃ L1 L2, wayF f i = L1 ++ p :: L2 ∧ (∀ x ∈ L1, x ∉ S) ∧ ∀ x ∈ L2, x ∈ S := by
  obtain ⟨L, h1, h2⟩ := way_in ok i hi hp
  have hlt := okNext_lt hn
  have hL : ∀ x ∈ L, x ∉ S := fun x hx hS => okNext_not hn (up_closed ok u x (h2 x hx).2 hS p (h2 x hx).1)
  have hf : f[p]? = some f[p] := List.getElem?_eq_getElem hlt
  cases hv : f[p] with
  | none =>
    rw [hv] at hf
    exact ⟨L, [], by rw [h1, wayF_none hf], hL, by simp⟩
  | some q =>
    rw [hv] at hf
    have hq := okNext_above hn hf
    exact ⟨L, wayF f q, by rw [h1, wayF_some ok hf], hL, fun x hx => up_closed ok u q (u.lt q hq) hq x hx⟩
/-- on the way to i, not on that to j, not placed -/
def remF (f : List (Option Nat)) (S : List Nat) (i j : Nat) : List Nat := (wayF f i).filter fun p => !(wayF f j).contains p && !S.contains p
theorem rem_step (ok : FieldOk f) (u : Up f S) (hi : i < f.length) (hp : p ∈ wayF f i) (hj : p ∉ wayF f j) (hn : okNext f S p = true) : remF f S i j = remF f (S ++ [p]) i j ++ [p] := by
  obtain ⟨L1, L2, e, h1, h2⟩ := way_split ok u hi hp hn
  have nd := way_nodup ok i hi
  have hpS := okNext_not hn
  unfold remF
  rw [e] at nd ⊢
  rw [List.filter_append, List.filter_append, List.filter_cons, List.filter_cons]
  have z1 : L2.filter (fun p => !(wayF f j).contains p && !S.contains p) = [] := List.filter_eq_nil_iff.mpr fun x hx => by simp [h2 x hx]
  have z2 : L2.filter (fun x => !(wayF f j).contains x && !(S ++ [p]).contains x) = [] := List.filter_eq_nil_iff.mpr fun x hx => by simp [h2 x hx]
  rw [z1, z2]
  rw [if_pos (by simp [hj, hpS]), if_neg (by simp)]
  rw [List.append_nil]
  congr 1
  refine List.filter_congr fun x hx => ?_
  have hxp : x ≠ p := fun z => by
    subst z
    rw [List.nodup_append] at nd
    exact nd.2.2 x hx x List.mem_cons_self rfl
  simp [hxp]
theorem rem_same (hp : p ∈ wayF f i → p ∈ wayF f j) : remF f (S ++ [p]) i j = remF f S i j := by
  unfold remF
  refine List.filter_congr fun x hx => ?_
  by_cases hxp : x = p
  · subst hxp
    simp [hp hx]
  · simp [hxp]
theorem rem_lt (ok : FieldOk f) (hi : i < f.length) : ∀ x ∈ remF f S i j, x < f.length := fun x hx => way_lt ok hi (List.mem_filter.mp hx).1
theorem cell_congr {a b a' b' : List Nat} : ∀ (n u v : Nat), u + v = n → (∀ t, t < u → a.getD t 0 = a'.getD t 0) → (∀ t, t < v → b.getD t 0 = b'.getD t 0) → cellF a b u v = cellF a' b' u v
  | _, 0, v, _, _, _ => by rw [cell0, cell0]
  | _, u + 1, 0, _, _, _ => by rw [cell1, cell1]
  | 0, u + 1, v + 1, h, _, _ => by omega
  | n + 1, u + 1, v + 1, h, ha, hb => by
    rw [cell2, cell2, cell_congr n u (v + 1) (by omega) (fun t ht => ha t (by omega)) hb, cell_congr n (u + 1) v (by omega) ha (fun t ht => hb t (by omega)), ha u (by omega), hb v (by omega)]
def cellR (f : List (Option Nat)) (A B : List Nat) : Nat × Nat := cellF (A.map (sizeF f)) (B.map (sizeF f)) A.length B.length
theorem getD_pre (A : List Nat) (p : Nat) {t : Nat} (h : t < A.length) : ((A ++ [p]).map (sizeF f)).getD t 0 = (A.map (sizeF f)).getD t 0 := by
  rw [List.map_append, List.getD_eq_getElem?_getD, List.getD_eq_getElem?_getD, List.getElem?_append_left (by rw [List.length_map]; exact h)]
theorem getD_last (A : List Nat) (p : Nat) : ((A ++ [p]).map (sizeF f)).getD A.length 0 = sizeF f p := by
  rw [List.map_append, List.getD_eq_getElem?_getD, List.getElem?_append_right (by rw [List.length_map]; exact Nat.le_refl _), List.length_map, Nat.sub_self]
  rfl
theorem redF_cross {n d : Nat} (hd : 0 < d) : (redF n d).1 * d = n * (redF n d).2 := by
  unfold redF
  have hg : 0 < Nat.gcd n d := Nat.gcd_pos_of_pos_right n hd
  obtain ⟨x, hx⟩ := Nat.gcd_dvd_left n d
  obtain ⟨y, hy⟩ := Nat.gcd_dvd_right n d
  generalize Nat.gcd n d = g at *
  subst hx
  rw [hy, Nat.mul_div_cancel_left _ hg, Nat.mul_div_cancel_left _ hg, Nat.mul_left_comm, Nat.mul_assoc]
theorem redF_uniq {a b n d : Nat} (hd : 0 < d) (hb : 0 < b) (hg : Nat.gcd n d = 1) (h : a * d = n * b) : redF a b = (n, d) := by
  have h1 : d ∣ b := by
    have : d ∣ n * b := ⟨a, by rw [← h, Nat.mul_comm]⟩
    exact (Nat.Coprime.symm hg).dvd_of_dvd_mul_left this
  obtain ⟨t, rfl⟩ := h1
  have ht : 0 < t := Nat.pos_of_mul_pos_left hb
  have h2 : a = t * n := by
    have : a * d = t * n * d := by rw [h, Nat.mul_comm t n, Nat.mul_assoc, Nat.mul_comm d t]
    exact Nat.eq_of_mul_eq_mul_right hd this
  subst h2
  rw [Nat.mul_comm d t, redF_scale ht]
  unfold redF
  rw [hg, Nat.div_one, Nat.div_one]
theorem cellR_ok (ok : FieldOk f) {A B : List Nat} (hA : ∀ x ∈ A, x < f.length) : 0 < (cellR f A B).2 ∧ Nat.gcd (cellR f A B).1 (cellR f A B).2 = 1 := by
  have h : ∀ x ∈ A.map (sizeF f), 0 < x := fun x hx => by
    obtain ⟨y, hy, rfl⟩ := List.mem_map.mp hx
    exact (size_pos ok (hA y hy)).1
  exact ⟨(cell_ok (b := B.map (sizeF f)) h _ A.length B.length rfl (by rw [List.length_map]; exact Nat.le_refl _)).1, cell_cop (b := B.map (sizeF f)) h _ A.length B.length rfl (by rw [List.length_map]; exact Nat.le_refl _)⟩
theorem cellR_step (ok : FieldOk f) {A B : List Nat} {p q : Nat} (hA : ∀ x ∈ A ++ [p], x < f.length) (hB : ∀ x ∈ B ++ [q], x < f.length) :
    (cellR f (A ++ [p]) (B ++ [q])).1 * ((sizeF f p + sizeF f q) * (cellR f A (B ++ [q])).2 * (cellR f (A ++ [p]) B).2) = (sizeF f p * (cellR f A (B ++ [q])).1 * (cellR f (A ++ [p]) B).2 + sizeF f q * (cellR f (A ++ [p]) B).1 * (cellR f A (B ++ [q])).2) * (cellR f (A ++ [p]) (B ++ [q])).2 := by
  have e1 : cellF ((A ++ [p]).map (sizeF f)) ((B ++ [q]).map (sizeF f)) A.length (B.length + 1) = cellR f A (B ++ [q]) := by
    unfold cellR
    rw [List.length_append]
    exact cell_congr _ _ _ rfl (fun t ht => getD_pre A p ht) fun t _ => rfl
  have e2 : cellF ((A ++ [p]).map (sizeF f)) ((B ++ [q]).map (sizeF f)) (A.length + 1) B.length = cellR f (A ++ [p]) B := by
    unfold cellR
    rw [List.length_append]
    exact cell_congr _ _ _ rfl (fun t _ => rfl) fun t ht => getD_pre B q ht
  have e0 : cellR f (A ++ [p]) (B ++ [q]) = redF (sizeF f p * (cellR f A (B ++ [q])).1 * (cellR f (A ++ [p]) B).2 + sizeF f q * (cellR f (A ++ [p]) B).1 * (cellR f A (B ++ [q])).2) ((sizeF f p + sizeF f q) * (cellR f A (B ++ [q])).2 * (cellR f (A ++ [p]) B).2) := by
    show cellF ((A ++ [p]).map (sizeF f)) ((B ++ [q]).map (sizeF f)) (A ++ [p]).length (B ++ [q]).length = _
    rw [List.length_append, List.length_append]
    show cellF _ _ (A.length + 1) (B.length + 1) = _
    rw [cell2, e1, e2, getD_last, getD_last]
  rw [e0]
  have h1 := (size_pos ok (hA p (by simp))).1
  exact redF_cross (Nat.mul_pos (Nat.mul_pos (by omega) (cellR_ok ok fun x hx => hA x (by simp [hx])).1) (cellR_ok ok hA).1)
/-! ### counted -/
def bef (i j : Nat) : List Nat → Bool
  | [] => false
  | x :: l => if x = i then true else if x = j then false else bef i j l
def winN (f : List (Option Nat)) (i j k : Nat) (S : List Nat) : Nat := ((extsN f k S).filter (bef i j)).length
def turnN (f : List (Option Nat)) (i j k : Nat) (S : List Nat) (p : Nat) : Nat := if p = i then cntN f k (S ++ [p]) else if p = j then 0 else winN f i j k (S ++ [p])
theorem win_succ {k : Nat} : winN f i j (k + 1) S = ((nextF f S).map (turnN f i j k S)).sum := by
  unfold winN
  rw [show extsN f (k + 1) S = (nextF f S).flatMap fun p => (extsN f k (S ++ [p])).map (p :: ·) from rfl, List.filter_flatMap, flat_len]
  refine sum_congr fun p _ => ?_
  rw [List.filter_map, List.length_map]
  unfold turnN
  by_cases h1 : p = i
  · rw [if_pos h1]
    have : (extsN f k (S ++ [p])).filter (bef i j ∘ fun x => p :: x) = extsN f k (S ++ [p]) := List.filter_eq_self.mpr fun x _ => by simp [bef, h1]
    rw [this]
    rfl
  · rw [if_neg h1]
    by_cases h2 : p = j
    · rw [if_pos h2, List.filter_eq_nil_iff.mpr fun x _ => by have h3 : j ≠ i := h2 ▸ h1; simp [bef, h2, h3]]
      rfl
    · rw [if_neg h2]
      congr 1
      refine List.filter_congr fun x _ => ?_
      simp [bef, h1, h2]
/-- the only one of a way who can come next -/
theorem way_one (ok : FieldOk f) (u : Up f S) (hi : i < f.length) (hS : i ∉ S) : ∃ p, p ∈ wayF f i ∧ okNext f S p = true ∧ ∀ q ∈ wayF f i, okNext f S q = true → q = p := by
  have h := way_next ok u i hi
  rw [if_neg (by simpa using hS)] at h
  obtain ⟨p, hp⟩ := List.length_eq_one_iff.mp h
  have hm : p ∈ (wayF f i).filter (okNext f S) := by rw [hp]; simp
  refine ⟨p, (List.mem_filter.mp hm).1, (List.mem_filter.mp hm).2, fun q hq hn => ?_⟩
  have : q ∈ (wayF f i).filter (okNext f S) := List.mem_filter.mpr ⟨hq, hn⟩
  rw [hp] at this
  simpa using this
theorem sum_pick {c p : Nat} : ∀ {l : List Nat}, l.Nodup → p ∈ l → (l.map fun x => if x = p then c else 0).sum = c
  | a :: l, nd, h => by
    rw [List.nodup_cons] at nd
    rw [List.map_cons, List.sum_cons]
    by_cases e : a = p
    · rw [if_pos e]
      have : (l.map fun x => if x = p then c else 0) = l.map fun _ => 0 := List.map_congr_left fun x hx => if_neg fun z => nd.1 (by rw [e, ← z]; exact hx)
      rw [this, sum_zero, Nat.add_zero]
    · rw [if_neg e, sum_pick nd.2 ((List.mem_cons.mp h).resolve_left fun z => e z.symm), Nat.zero_add]
/-- of the orders behind S, those with i ahead of j: as many of all as the race of what is left on both ways says -/
theorem share_main (ok : FieldOk f) (hi : i < f.length) (hj : j < f.length) (hij : i ∉ wayF f j) (hji : j ∉ wayF f i) : ∀ (k : Nat) (S : List Nat), Up f S → k + S.length = f.length → i ∉ S → j ∉ S →
    winN f i j k S * (cellR f (remF f S i j) (remF f S j i)).2 = (cellR f (remF f S i j) (remF f S j i)).1 * cntN f k S
  | 0, S, u, hl, hS, _ => by
    have hr := rest_len u
    have e : restL f S = [] := List.eq_nil_of_length_eq_zero (by omega)
    have := mem_rest.mpr ⟨hi, hS⟩
    rw [e] at this
    cases this
  | k + 1, S, u, hl, hS, hT => by
    obtain ⟨p, p1, p2, p3⟩ := way_one ok u hi hS
    obtain ⟨q, q1, q2, q3⟩ := way_one ok u hj hT
    have hlen : ∀ x, k + (S ++ [x]).length = f.length := fun x => by rw [List.length_append]; simp; omega
    have hne : i ≠ j := fun z => hij (z ▸ way_head i)
    have notS : ∀ {x y : Nat}, y ∉ S → x ≠ y → y ∉ S ++ [x] := fun h1 h2 h3 => (List.mem_append.mp h3).elim h1 fun h => h2 (List.mem_singleton.mp h).symm
    have ih := share_main ok hi hj hij hji k
    rw [win_succ]
    by_cases hc : p ∈ wayF f j
    · -- the one who comes next on both ways is the same
      have epq : p = q := q3 p hc p2
      have ni : ∀ x ∈ nextF f S, x ∈ wayF f i → x ∈ wayF f j := fun x hx h => by rw [p3 x h (mem_next.mp hx)]; exact hc
      have nj : ∀ x ∈ nextF f S, x ∈ wayF f j → x ∈ wayF f i := fun x hx h => by rw [q3 x h (mem_next.mp hx), ← epq]; exact p1
      generalize hcell : cellR f (remF f S i j) (remF f S j i) = cell
      have step : ∀ x ∈ nextF f S, turnN f i j k S x * cell.2 = cntN f k (S ++ [x]) * cell.1 := fun x hx => by
        have xi : x ≠ i := fun z => hij (ni x hx (by rw [z]; exact way_head i) |> fun h => by rw [z] at h; exact h)
        have xj : x ≠ j := fun z => hji (nj x hx (by rw [z]; exact way_head j) |> fun h => by rw [z] at h; exact h)
        have h := ih (S ++ [x]) (u.snoc (mem_next.mp hx)) (hlen x) (notS hS xi) (notS hT xj)
        rw [rem_same (ni x hx), rem_same (nj x hx), hcell] at h
        unfold turnN
        rw [if_neg xi, if_neg xj, h, Nat.mul_comm]
      rw [← sum_mulr, sum_congr step, sum_mulr, ← cnt_succ, Nat.mul_comm]
    · -- two different ones
      have hq : q ∉ wayF f i := fun h => hc (by rw [← p3 q h q2]; exact q1)
      have ei := rem_step ok u hi p1 hc p2
      have ej := rem_step ok u hj q1 hq q2
      have ei' : remF f (S ++ [q]) i j = remF f S i j := rem_same fun h => absurd h hq
      have ej' : remF f (S ++ [p]) j i = remF f S j i := rem_same fun h => absurd h hc
      have other : ∀ x ∈ nextF f S, x ≠ p → x ≠ q → remF f (S ++ [x]) i j = remF f S i j ∧ remF f (S ++ [x]) j i = remF f S j i := fun x hx h1 h2 =>
        ⟨rem_same fun h => absurd (p3 x h (mem_next.mp hx)) h1, rem_same fun h => absurd (q3 x h (mem_next.mp hx)) h2⟩
      have hA : ∀ x ∈ remF f (S ++ [p]) i j ++ [p], x < f.length := ei ▸ rem_lt ok hi
      have hB : ∀ x ∈ remF f (S ++ [q]) j i ++ [q], x < f.length := ej ▸ rem_lt ok hj
      have hrec := cellR_step ok hA hB
      rw [← ei, ← ej] at hrec
      have o0 := (cellR_ok ok (B := remF f S j i) (rem_lt ok hi (S := S) (j := j))).1
      have o1 := (cellR_ok ok (B := remF f S j i) (rem_lt ok hi (S := S ++ [p]) (j := j))).1
      have o2 := (cellR_ok ok (B := remF f (S ++ [q]) j i) (rem_lt ok hi (S := S) (j := j))).1
      have C1 : ∀ x ∈ nextF f S, cntN f (k + 1) S * sizeF f x = (k + 1) * cntN f k (S ++ [x]) := fun x hx => cnt_next ok u hl (mem_next.mp hx)
      have hs : ((nextF f S).map (sizeF f)).sum = k + 1 := by
        have h1 := next_sizes ok u
        have h2 := rest_len u
        omega
      have hpq : p ≠ q := fun z => hc (z ▸ q1)
      -- what is left is nothing, when i (j) itself comes
      have gone : ∀ {a b x : Nat}, a < f.length → a ∉ S → a ∉ wayF f b → x = a → remF f S a b = remF f (S ++ [x]) a b ++ [x] → remF f (S ++ [x]) a b = [] := fun {a b x} ha haS hab hx e => by
        subst hx
        have nd : (remF f S x b).Nodup := (way_nodup ok x ha).sublist List.filter_sublist
        have hw : ∃ r, wayF f x = x :: r := by
          have hf : f[x]? = some f[x] := List.getElem?_eq_getElem ha
          cases hv : f[x] with
          | none => rw [hv] at hf; exact ⟨[], wayF_none hf⟩
          | some y => rw [hv] at hf; exact ⟨_, wayF_some ok hf⟩
        obtain ⟨r, hr⟩ := hw
        have h1 : ∃ r', remF f S x b = x :: r' := by
          unfold remF
          rw [hr, List.filter_cons, if_pos (by simp [haS, hab])]
          exact ⟨_, rfl⟩
        obtain ⟨r', hr'⟩ := h1
        cases hX : remF f (S ++ [x]) x b with
        | nil => rfl
        | cons y Y =>
          rw [e, hX] at nd hr'
          injection hr' with e1 e2
          subst e1
          rw [List.cons_append, List.nodup_cons] at nd
          exact absurd (by simp) nd.1
      refine weigh (p := p) (q := q) (s := sizeF f) (c := fun x => cntN f k (S ++ [x])) (t := turnN f i j k S) (K := k + 1) (n1 := (cellR f (remF f (S ++ [p]) i j) (remF f S j i)).1) (d1 := (cellR f (remF f (S ++ [p]) i j) (remF f S j i)).2) (n2 := (cellR f (remF f S i j) (remF f (S ++ [q]) j i)).1) (d2 := (cellR f (remF f S i j) (remF f (S ++ [q]) j i)).2)
        next_nodup (mem_next.mpr p2) (mem_next.mpr q2) hpq C1 ?_ ?_ (fun x hx xp xq => ?_) hs hrec o1 o2 (Nat.succ_pos k)
      · by_cases xi : p = i
        · have hr := gone hi hS hij xi ei
          have e1 : cellR f (remF f (S ++ [p]) i j) (remF f S j i) = (1, 1) := by rw [hr]; unfold cellR; exact cell0 _ _ _
          unfold turnN
          rw [e1, if_pos xi, Nat.mul_one, Nat.one_mul]
        · have xj : p ≠ j := fun z => hc (by rw [z]; exact way_head j)
          have h := ih (S ++ [p]) (u.snoc p2) (hlen p) (notS hS xi) (notS hT xj)
          rw [ej'] at h
          unfold turnN
          rw [if_neg xi, if_neg xj]
          exact h
      · have xi : q ≠ i := fun z => hq (by rw [z]; exact way_head i)
        by_cases xj : q = j
        · have hr := gone hj hT hji xj ej
          have e1 : cellR f (remF f S i j) (remF f (S ++ [q]) j i) = (0, 1) := by
            rw [hr, ei]
            unfold cellR
            rw [List.length_append]
            exact cell1 _ _ _
          unfold turnN
          rw [e1, if_neg xi, if_pos xj, Nat.zero_mul, Nat.zero_mul]
        · have h := ih (S ++ [q]) (u.snoc q2) (hlen q) (notS hS xi) (notS hT xj)
          rw [ei'] at h
          unfold turnN
          rw [if_neg xi, if_neg xj]
          exact h
      · have xi : x ≠ i := fun z => xp (p3 x (by rw [z]; exact way_head i) (mem_next.mp hx))
        have xj : x ≠ j := fun z => xq (q3 x (by rw [z]; exact way_head j) (mem_next.mp hx))
        have h := ih (S ++ [x]) (u.snoc (mem_next.mp hx)) (hlen x) (notS hS xi) (notS hT xj)
        rw [(other x hx xp xq).1, (other x hx xp xq).2] at h
        unfold turnN
        rw [if_neg xi, if_neg xj]
        exact h
/-- the share of those unrelated, by all orders -/
theorem share_unrel (ok : FieldOk f) (hi : i < f.length) (hj : j < f.length) (hij : i ∉ wayF f j) (hji : j ∉ wayF f i) : redF (winN f i j f.length []) (countF f) = raceF (downF f i j) (downF f j i) := by
  have h := share_main ok hi hj hij hji f.length [] Up.nil rfl (by simp) (by simp)
  obtain ⟨o1, o2⟩ := cellR_ok ok (B := remF f [] j i) (rem_lt ok hi (S := []) (j := j))
  have e : cellR f (remF f [] i j) (remF f [] j i) = raceF (downF f i j) (downF f j i) := by
    have rm : ∀ a b, a < f.length → (downF f a b).reverse = (remF f [] a b).map (sizeF f) := fun a b ha => by
      unfold downF remF
      rw [List.reverse_reverse]
      have e1 : ((wayF f a).filter fun p => !(wayF f b).contains p && !([] : List Nat).contains p) = (wayF f a).filter fun p => !(wayF f b).contains p := List.filter_congr fun x _ => by simp
      rw [e1]
      exact List.map_congr_left fun x hx => size_getD (way_lt ok ha (List.mem_filter.mp hx).1)
    have ln : ∀ a b, a < f.length → (downF f a b).length = (remF f [] a b).length := fun a b ha => by
      rw [← List.length_reverse, rm a b ha, List.length_map]
    unfold raceF cellR
    rw [rm i j hi, rm j i hj, ln i j hi, ln j i hj]
  rw [← e]
  exact redF_uniq o1 (count_pos ok) o2 h
/-- above another: ahead of them in all orders -/
theorem bef_count (i j : Nat) (k : Nat) (h : ∀ l ∈ extsN f k [], bef i j l = true) : winN f i j k [] = cntN f k [] := by
  unfold winN cntN
  rw [List.filter_eq_self.mpr h]
theorem bef_none (i j : Nat) (k : Nat) (h : ∀ l ∈ extsN f k [], bef i j l = false) : winN f i j k [] = 0 := by
  unfold winN
  rw [List.filter_eq_nil_iff.mpr fun l hl => by rw [h l hl]; decide]
  rfl
end
end DL
/-! places in orders -/
namespace DL
open PySem L2
theorem idx_cast (i : Nat) : ∀ l : List Nat, (l.map fun (n : Nat) => (n : Int)).idxOf (i : Int) = l.idxOf i
  | [] => rfl
  | a :: l => by
    rw [List.map_cons, List.idxOf_cons, List.idxOf_cons, idx_cast i l]
    have : ((a : Int) == (i : Int)) = (a == i) := by
      by_cases h : a = i
      · subst h; rw [beq_self_eq_true, beq_self_eq_true]
      · have h2 : ¬ ((a : Int) = (i : Int)) := fun z => h (by omega)
        rw [beq_eq_false_iff_ne.mpr h, beq_eq_false_iff_ne.mpr h2]
    rw [this]
theorem mem_take_idx {i : Nat} : ∀ {l : List Nat} {k : Nat}, i ∈ l.take k → l.idxOf i < k
  | [], k, h => by simp at h
  | a :: l, 0, h => by simp at h
  | a :: l, k + 1, h => by
    rw [List.idxOf_cons]
    by_cases e : a = i
    · simp [e]
    · rw [List.take_succ_cons, List.mem_cons] at h
      have := mem_take_idx (k := k) (h.resolve_left fun z => e z.symm)
      have e' : (a == i) = false := by simp [e]
      rw [e']
      simp
      omega
theorem bef_idx {i j : Nat} (hij : i ≠ j) : ∀ {l : List Nat}, i ∈ l → j ∈ l → bef i j l = decide (l.idxOf i < l.idxOf j)
  | [], h, _ => by simp at h
  | a :: l, h1, h2 => by
    unfold bef
    rw [List.idxOf_cons, List.idxOf_cons]
    by_cases ei : a = i
    · subst ei
      have : (a == j) = false := by simp [hij]
      simp [this]
    · by_cases ej : a = j
      · subst ej
        have : (a == i) = false := by simp [ei]
        simp [this, ei]
      · have e1 : (a == i) = false := by simp [ei]
        have e2 : (a == j) = false := by simp [ej]
        rw [if_neg ei, if_neg ej, e1, e2, bef_idx hij ((List.mem_cons.mp h1).resolve_left fun z => ei z.symm) ((List.mem_cons.mp h2).resolve_left fun z => ej z.symm)]
        simp
section
variable {f : List (Option Nat)}
theorem order_up {l : List Nat} (h : l ∈ ordersF f) : Up f l ∧ l.length = f.length := by
  obtain ⟨h1, h2⟩ := mem_exts.mp h
  exact ⟨ord_up Up.nil h2, h1⟩
theorem order_mem {l : List Nat} (h : l ∈ ordersF f) {i : Nat} (hi : i < f.length) : i ∈ l := by
  obtain ⟨u, hl⟩ := order_up h
  have := nodup_lt f.length (i :: l)
  by_cases hm : i ∈ l
  · exact hm
  · have h2 := this (List.nodup_cons.mpr ⟨hm, u.nd⟩) (fun x hx => (List.mem_cons.mp hx).elim (fun e => e ▸ hi) (u.lt x))
    simp at h2
    omega
theorem order_take {l : List Nat} (h : l ∈ ordersF f) (k : Nat) : Up f (l.take k) := by
  obtain ⟨h1, h2⟩ := mem_exts.mp h
  have e : l = l.take k ++ l.drop k := (List.take_append_drop k l).symm
  rw [e, ord_split, Bool.and_eq_true] at h2
  exact ord_up Up.nil h2.1
/-- who stands above another stands ahead in each order -/
theorem order_way (ok : FieldOk f) {l : List Nat} (h : l ∈ ordersF f) {i j : Nat} (hj : j < f.length) (hi : i ∈ wayF f j) (hij : i ≠ j) : l.idxOf i < l.idxOf j := by
  have mj := order_mem h hj
  have lt := List.idxOf_lt_length_of_mem mj
  have u := order_take h (l.idxOf j + 1)
  have mt : j ∈ l.take (l.idxOf j + 1) := by
    rw [List.take_add_one, List.getElem?_eq_getElem lt, List.getElem_idxOf lt]
    simp
  have mi := up_closed ok u j hj mt i hi
  have := mem_take_idx mi
  have ne : l.idxOf i ≠ l.idxOf j := fun e => by
    have li := List.idxOf_lt_length_of_mem (order_mem h (way_lt ok hj hi))
    have a := List.getElem_idxOf li
    have b := List.getElem_idxOf lt
    have : l[l.idxOf i]? = l[l.idxOf j]? := by rw [e]
    rw [List.getElem?_eq_getElem li, List.getElem?_eq_getElem lt, a, b] at this
    exact hij (Option.some.inj this)
  omega
def aheadN (f : List (Option Nat)) (i j : Nat) : Nat := ((ordersF f).filter fun l => decide (l.idxOf i < l.idxOf j)).length
theorem ahead_win {i j : Nat} (hij : i ≠ j) (hi : i < f.length) (hj : j < f.length) : aheadN f i j = winN f i j f.length [] := by
  unfold aheadN winN
  have : (ordersF f).filter (fun l => decide (l.idxOf i < l.idxOf j)) = (ordersF f).filter (bef i j) := List.filter_congr fun l hl => (bef_idx hij (order_mem hl hi) (order_mem hl hj)).symm
  rw [this]
  rfl
theorem ahead_le {i j : Nat} : aheadN f i j ≤ countF f := List.length_filter_le _ _
theorem redF_self {n : Nat} (h : 0 < n) : redF n n = (1, 1) := by
  unfold redF
  rw [Nat.gcd_self, Nat.div_self h]
theorem redF_zero {n : Nat} (h : 0 < n) : redF 0 n = (0, 1) := by
  unfold redF
  rw [Nat.gcd_zero_left, Nat.div_self h, Nat.zero_div]
/-- the share told is that by all orders -/
theorem share_all (ok : FieldOk f) {i j : Nat} (hi : i < f.length) (hj : j < f.length) : redF (aheadN f i j) (countF f) = shareF f i j := by
  have cp := count_pos ok
  unfold shareF relF
  by_cases e : i = j
  · subst e
    have h0 : aheadN f i i = 0 := by
      unfold aheadN
      rw [List.length_eq_zero_iff, List.filter_eq_nil_iff]
      intro l _
      simp
    rw [h0, redF_zero cp, if_pos (by rw [List.contains_iff_mem.mpr (way_head i)]; rfl)]
    simp
  · by_cases h1 : i ∈ wayF f j
    · have ha : aheadN f i j = countF f := by
        unfold aheadN
        rw [List.filter_eq_self.mpr fun l hl => decide_eq_true (order_way ok hl hj h1 e)]
        rfl
      rw [ha, redF_self cp, if_pos (by rw [List.contains_iff_mem.mpr h1]; rfl), List.contains_iff_mem.mpr h1]
      simp [e]
    · have c1 : (wayF f j).contains i = false := by
        cases q : (wayF f j).contains i with
        | false => rfl
        | true => exact absurd (List.contains_iff_mem.mp q) h1
      by_cases h2 : j ∈ wayF f i
      · have ha : aheadN f i j = 0 := by
          unfold aheadN
          rw [List.length_eq_zero_iff, List.filter_eq_nil_iff]
          intro l hl
          have := order_way ok hl hi h2 (Ne.symm e)
          simp
          omega
        rw [ha, redF_zero cp, if_pos (by rw [List.contains_iff_mem.mpr h2]; simp), c1]
        simp
      · have c2 : (wayF f i).contains j = false := by
          cases q : (wayF f i).contains j with
          | false => rfl
          | true => exact absurd (List.contains_iff_mem.mp q) h2
        rw [c1, c2, ahead_win e hi hj]
        simp only [Bool.or_self, Bool.false_eq_true, if_false]
        exact share_unrel ok hi hj h1 h2
end
end DL
namespace K12
open PySem PySem.Spec PyProof.Rows L2 DL KB
abbrev R0 : Er → List Sl → Prop := fun _ _ => False
def tLoop (K : PySem.W.Frag) (mg : Str → Option Value) (aF aP : Addr) : TSd := t_law_loop K mg (sp_shareE aF aP) sp_reduced (sp_same 3) sp_lorders sp_field R0
def tRest (K : PySem.W.Frag) (mg : Str → Option Value) (aF aP : Addr) : TSd := t_law_rest K mg (sp_shareE aF aP) R0
abbrev endL (ns : List Int) (n : Nat) : Ed := { nx := bagNx 1 n (fun ρ => ∃ s2 s3 s4 s5 s6 s7 s8, ρ = [.scr ns, .no, s2, s3, s4, s5, s6, s7, s8]), rt := fun _ _ => False }
theorem bad_d {aF aP : Addr} {f : List (Option Nat)} {d e : D} {Rr : Res → List Sl → Prop} (ok : FieldOk f) (h : withinD d 0 ((f.length : Int) - 1) = false) (k : ∀ post, Rr (.er ⟨aP, []⟩) post) : ShP aF aP [.sh (fieldD f), .sh d, .sh e] Rr := ⟨.inr (.inl ⟨f, d, e, rfl, ok, h, k⟩)⟩
theorem bad_e {aF aP : Addr} {f : List (Option Nat)} {d e : D} {Rr : Res → List Sl → Prop} (ok : FieldOk f) (h' : withinD d 0 ((f.length : Int) - 1) = true) (h : withinD e 0 ((f.length : Int) - 1) = false) (k : ∀ post, Rr (.er ⟨aP, []⟩) post) : ShP aF aP [.sh (fieldD f), .sh d, .sh e] Rr := ⟨.inr (.inr (.inl ⟨f, d, e, rfl, ok, h', h, k⟩))⟩
theorem bad_f {aF aP : Addr} {c d e : D} {Rr : Res → List Sl → Prop} (h : isFieldD c = false) (k : ∀ post, Rr (.er ⟨aF, []⟩) post) : ShP aF aP [.sh c, .sh d, .sh e] Rr := ⟨.inr (.inr (.inr ⟨c, d, e, rfl, h, k⟩))⟩
theorem cell_small {f : List (Option Nat)} (ok : FieldOk f) {i j : Nat} (hi : i < f.length) (hj : j < f.length) (h6 : f.length ≤ 6) : CellOk (downF f i j) (downF f j i) := by
  have h := down_len ok hi hj
  refine cellOk_of ⟨by omega, fun x hx => (down_mem ok hi hx).1, fun x hx => (down_mem ok hi hx).2⟩ ⟨by omega, fun x hx => (down_mem ok hj hx).1, fun x hx => (down_mem ok hj hx).2⟩ ?_
  exact Nat.le_trans (Nat.mul_le_mul (show (downF f i j).length ≤ 6 by omega) (show (downF f j i).length ≤ 6 by omega)) (by decide)
theorem share_ok {aF aP : Addr} {f : List (Option Nat)} {i j : Nat} {d e : D} {Rr : Res → List Sl → Prop} (ok : FieldOk f) (h6 : f.length ≤ 6) (hi : i < f.length) (hj : j < f.length) (hd : d = .int (i : Int)) (he : e = .int (j : Int)) (k : ∀ post, Rr (.val (frD (shareF f i j))) post) : ShP aF aP [.sh (fieldD f), .sh d, .sh e] Rr := by
  subst hd; subst he
  exact ⟨.inl ⟨f, i, j, rfl, ok, hi, hj, cell_small ok hi hj h6, k⟩⟩
theorem count6 {f : List (Option Nat)} (ok : FieldOk f) (h : f.length ≤ 6) : countF f ≤ 720 := by
  have e := count_eq ok
  have p := prod_sizes_pos ok
  have : countF f ≤ countF f * prodL (sizesF f) := Nat.le_mul_of_pos_right _ p
  rw [e] at this
  exact Nat.le_trans this (Nat.le_trans (fac_mono h) (by decide))
theorem nats_int (l : List Nat) : natsD l = (l.map fun (n : Nat) => (n : Int)).map D.int := by
  unfold natsD
  rw [List.map_map]
  rfl
theorem int_mem {l : List Nat} {i : Nat} (h : i ∈ l) : (i : Int) ∈ l.map fun (n : Nat) => (n : Int) := List.mem_map.mpr ⟨i, h, rfl⟩
theorem law_loop {K : PySem.W.Frag} {mg : Str → Option Value} {aF aP : Addr} (kP : Knd K mg aP "NoPlayer") (ns : List Int) (n : Nat) (hn : n ≤ 2000000000) (s2 s3 s4 s5 s6 s7 s8 : Sl) :
    tLoop K mg aF aP (endL ns n) [.scr ns, .bg false n, s2, s3, s4, s5, s6, s7, s8] := by
  refine ⟨_, rfl, rfl, n, 6, rfl, by decide, by decide, by omega, fun f n1 ok hf h1 => ⟨f, rfl, ok, by omega, fun _ => ?_⟩⟩
  have hf : f.length ≤ 6 := by omega
  have W0 := count_pos ok
  have W1 := count6 ok hf
  have hm : (f.map optD).length = f.length := List.length_map _
  have hlo := ok.lo
  refine ⟨⟨by rw [hm]; omega, by rw [hm]; omega⟩, fun i ρ => ∃ s4 s5 s6 s7 s8, ρ = [.scr ns, .bg false n1, .sh (fieldD f), .sh (.lst (rowsN (ordersF f))), s4, s5, s6, s7, s8], ⟨_, _, _, _, _, rfl⟩, ?_, ?_⟩
  · rintro i d ρ hi rfl ⟨s4, s5, s6, s7, s8, rfl⟩
    have hi : i < (((f.map optD).length : Nat) : Int).toNat := hi
    have hi : i < f.length := by omega
    refine ⟨⟨by rw [hm]; omega, by rw [hm]; omega⟩, fun j ρ => ∃ s5 s6 s7 s8, ρ = [.scr ns, .bg false n1, .sh (fieldD f), .sh (.lst (rowsN (ordersF f))), .sh (.int (0 + (i : Int))), s5, s6, s7, s8], ⟨_, _, _, _, rfl⟩, ?_, ?_⟩
    · rintro j d ρ hj rfl ⟨s5, s6, s7, s8, rfl⟩
      have hj : j < (((f.map optD).length : Nat) : Int).toNat := hj
      have hj : j < f.length := by omega
      refine ⟨fun t acc ρ => acc = List.replicate (((ordersF f).take t).filter fun l => decide (l.idxOf i < l.idxOf j)).length (.int 1) ∧ ρ = [.scr ns, .bg false n1, .sh (fieldD f), .sh (.lst (rowsN (ordersF f))), .sh (.int (0 + (i : Int))), s5, .sh (.int (0 + (j : Int))), s7, .no], ⟨rfl, rfl⟩, ?_, ?_⟩
      · rintro t d acc ρ ht hd ⟨rfl, rfl⟩
        have ht : t < (rowsN (ordersF f)).length := ht
        rw [rowsN_len] at ht
        have hd : (rowsN (ordersF f))[t]? = some d := hd
        have hv : (ordersF f)[t]? = some (ordersF f)[t] := List.getElem?_eq_getElem ht
        unfold rowsN at hd
        rw [List.getElem?_map, hv] at hd
        cases hd
        have hl := List.mem_of_getElem? hv
        generalize (ordersF f)[t] = l at hv hl
        have hb : (((ordersF f).take t).filter fun l => decide (l.idxOf i < l.idxOf j)).length ≤ countF f := Nat.le_trans (List.length_filter_le _ _) (by rw [List.length_take]; exact Nat.min_le_right _ _)
        have ix : ∀ {x : Nat}, (l.map fun (n : Nat) => (n : Int)).idxOf (0 + (x : Int)) = l.idxOf x := fun {x} => by rw [Int.zero_add, idx_cast]
        refine ⟨_, nats_int l, by rw [Int.zero_add]; exact int_mem (order_mem hl hi), _, nats_int l, by rw [Int.zero_add]; exact int_mem (order_mem hl hj), fun h => ?_, fun h => ?_⟩
        · have h : l.idxOf i < l.idxOf j := by
            have h := of_decide_eq_true h
            rw [ix, ix] at h
            omega
          refine ⟨by rw [List.length_replicate]; omega, ?_, rfl⟩
          rw [List.take_add_one, hv, List.filter_append]
          simp [h, List.replicate_succ']
        · have h : ¬ l.idxOf i < l.idxOf j := by
            have h := of_decide_eq_false h
            rw [ix, ix] at h
            omega
          refine ⟨?_, rfl⟩
          rw [List.take_add_one, hv, List.filter_append]
          simp [h]
      · rintro acc ρ ⟨rfl, rfl⟩
        have e : (List.replicate (((ordersF f).take (itL (rowsN (ordersF f))).n).filter fun l => decide (l.idxOf i < l.idxOf j)).length (D.int 1)).length = aheadN f i j := by
          rw [List.length_replicate, show (itL (rowsN (ordersF f))).n = (ordersF f).length from rowsN_len _, List.take_length]
          rfl
        refine share_ok ok hf hi hj (by rw [Int.zero_add]) (by rw [Int.zero_add]) fun _ => ?_
        refine ⟨aheadN f i j, countF f, ?_, W0, lt2_60' W1, fun _ => ⟨frD (redF (aheadN f i j) (countF f)), ?_, okd_fr _, fun _ => ⟨fun z => (by cases z), fun _ => ⟨_, _, _, _, rfl⟩⟩⟩⟩
        · show [Sl.sh (.int (_ : Nat)), Sl.sh (.int ((rowsN (ordersF f)).length : Nat))] = _
          rw [e, rowsN_len]
          rfl
        · rw [share_all ok hi hj]
          rfl
    · rintro ρ ⟨s5, s6, s7, s8, rfl⟩
      exact ⟨_, _, _, _, _, rfl⟩
  rintro ρ ⟨s4, s5, s6, s7, s8, rfl⟩
  refine ⟨fun i ρ => ∃ s4 s5 s6 s7 s8, ρ = [.scr ns, .bg false n1, .sh (fieldD f), .sh (.lst (rowsN (ordersF f))), s4, s5, s6, s7, s8], ⟨_, _, _, _, _, rfl⟩, ?_, ?_⟩
  · rintro i d ρ hi' hd ⟨s4, s5, s6, s7, s8, rfl⟩
    have hbad : withinD d 0 ((f.length : Int) - 1) = false := by
      have hd := List.mem_of_getElem? (show ([_, _, _, _, _] : List D)[i]? = some d from hd)
      simp only [List.mem_cons, List.not_mem_nil, or_false] at hd
      rcases hd with rfl | rfl | rfl | rfl | rfl
      · show decide ((0 : Int) ≤ -1 ∧ (-1 : Int) ≤ (f.length : Int) - 1) = false
        exact decide_eq_false (by omega)
      · show decide ((0 : Int) ≤ ((f.map optD).length : Nat) ∧ (((f.map optD).length : Nat) : Int) ≤ (f.length : Int) - 1) = false
        exact decide_eq_false (by rw [hm]; omega)
      · rfl
      · rfl
      · rfl
    refine bad_d ok hbad fun _ => ⟨rfl, _, kP, ⟨⟨?_, ?_⟩, fun z => ne_word (x := "NoPlayer") z, fun _ => ?_⟩⟩
    · decide +kernel
    · decide +kernel
    refine bad_e ok (decide_eq_true (by omega)) hbad fun _ => ⟨rfl, _, kP, ⟨⟨?_, ?_⟩, fun z => ne_word (x := "NoPlayer") z, fun _ => ⟨_, _, _, _, _, rfl⟩⟩⟩
    · decide +kernel
    · decide +kernel
  · rintro ρ ⟨s4, s5, s6, s7, s8, rfl⟩
    exact ⟨n1, rfl, by omega, _, _, _, _, _, _, _, rfl⟩
def f4 : List (Option Nat) := [none, some 0, some 0, some 1]
theorem f4_ok : FieldOk f4 := by
  refine ⟨by decide, by decide, fun i p h => ?_, by decide⟩
  rcases i with _ | _ | _ | _ | i
  all_goals first | (cases h; decide) | cases h
def f2 : List (Option Nat) := [none, some 0]
theorem f2_ok : FieldOk f2 := by
  refine ⟨by decide, by decide, fun i p h => ?_, by decide⟩
  rcases i with _ | _ | i
  all_goals first | (cases h; decide) | cases h
theorem law_rest {K : PySem.W.Frag} {mg : Str → Option Value} {aF aP : Addr} (kF : Knd K mg aF "NoField") (ns : List Int) (s2 s3 s4 s5 s6 s7 s8 : Sl) : tRest K mg aF aP lawEd [.scr ns, .no, s2, s3, s4, s5, s6, s7, s8] := by
  refine bad_f (by decide +kernel) fun _ => ⟨rfl, _, kF, ⟨⟨?_, ?_⟩, fun z => ne_word (x := "NoField") z, fun _ => ?_⟩⟩
  · decide +kernel
  · decide +kernel
  refine share_ok (f := f4) (i := 3) (j := 2) f4_ok (by decide) (by decide) (by decide) rfl rfl fun _ => ⟨⟨(okd_fr_shd _), by decide +kernel⟩, fun _ => ?_, fun z => ?_⟩
  · refine share_ok (f := f2) (i := 0) (j := 1) f2_ok (by decide) (by decide) (by decide) rfl rfl fun _ => ⟨⟨(okd_fr_shd _), by decide +kernel⟩, ?_⟩
    show Rv.val (.bl (PyData.eqv (frD (shareF f2 0 1)).py (frD (1, 1)).py)) = .val (.bl true)
    rw [show shareF f2 0 1 = (1, 1) from by decide +kernel]
    rfl
  · have z : PyData.eqv (frD (shareF f4 3 2)).py (frD (1, 3)).py = false := z
    rw [show shareF f4 3 2 = (1, 3) from by decide +kernel] at z
    cases z
def tLaw (K : PySem.W.Frag) (mg : Str → Option Value) (aF aP : Addr) : TSd := rSeq (rBags 0 1 5 (tLoop K mg aF aP)) (tRest K mg aF aP)
theorem law_all {K : PySem.W.Frag} {mg : Str → Option Value} {aF aP : Addr} (kP : Knd K mg aP "NoPlayer") (kF : Knd K mg aF "NoField") (ns : List Int) : tLaw K mg aF aP lawEd (lawρ N_law ns) := by
  refine ⟨by decide, by decide, ⟨ns, rfl⟩, by show 1 < 9; decide, fun ρ => ∃ s2 s3 s4 s5 s6 s7 s8, ρ = [.scr ns, .no, s2, s3, s4, s5, s6, s7, s8], ⟨_, _, _, _, _, _, _, rfl⟩, ?_, ?_⟩
  · rintro n ρ hn ⟨s2, s3, s4, s5, s6, s7, s8, rfl⟩
    exact law_loop kP ns n hn s2 s3 s4 s5 s6 s7 s8
  · rintro ρ ⟨s2, s3, s4, s5, s6, s7, s8, rfl⟩
    exact law_rest kF ns s2 s3 s4 s5 s6 s7 s8
end K12
/-! the errors' classes, looked up in the written part -/
namespace DL
open PySem PySem.Spec PyProof.Rows L2 HotX LamX
/-- of which of the ten classes (as) the class D is, as bs says; not TooMany, not NoText (the last two); a CupError (aC) -/
def clsB (K : PySem.W.Frag) (D : Addr) (as : List Addr) (aC : Addr) (bs : List Bool) : Bool :=
  ((as.zip bs).all fun p => PySem.W.kitOne K (.ref D) (.ref p.1) == some p.2) && PySem.W.exmOne K (.ref D) (.ref (as.getD 8 0)) == some false && PySem.W.exmOne K (.ref D) (.ref (as.getD 9 0)) == some false && PySem.W.exmOne K (.ref D) (.ref aC) == some true
theorem knd_of {K : PySem.W.Frag} {mg : Str → Option Value} {D a0 a1 a2 a3 a4 a5 a6 a7 a8 a9 aC : Addr} {b0 b1 b2 b3 b4 b5 b6 b7 b8 b9 : Bool} (c : ExcC K D) (h : clsB K D [a0, a1, a2, a3, a4, a5, a6, a7, a8, a9] aC [b0, b1, b2, b3, b4, b5, b6, b7, b8, b9] = true)
    (m0 : mg "NoCup" = some (.ref a0)) (m1 : mg "NoPlayer" = some (.ref a1)) (m2 : mg "NoNumber" = some (.ref a2)) (m3 : mg "NoOrder" = some (.ref a3)) (m4 : mg "NoField" = some (.ref a4)) (m5 : mg "NoRace" = some (.ref a5)) (m6 : mg "NotPeers" = some (.ref a6)) (m7 : mg "NothingLeft" = some (.ref a7)) (m8 : mg "TooMany" = some (.ref a8)) (m9 : mg "NoText" = some (.ref a9)) (mC : mg "CupError" = some (.ref aC))
    (i : mg "isinstance" = none) (z : mg "zip" = none) {x : Str} (hx : Txt.join "" (pick kindWords [b0, b1, b2, b3, b4, b5, b6, b7, b8, b9]) = x) : Knd K mg D x := by
  unfold clsB at h
  simp only [List.zip_cons_cons, List.zip_nil_right, List.all_cons, List.all_nil, Bool.and_true, Bool.and_eq_true, beq_iff_eq] at h
  obtain ⟨⟨⟨⟨e0, e1, e2, e3, e4, e5, e6, e7, e8, e9⟩, t⟩, n⟩, k⟩ := h
  exact ⟨[b0, b1, b2, b3, b4, b5, b6, b7, b8, b9], ⟨⟨a8, m8, t⟩, ⟨a9, m9, n⟩, ⟨aC, mC, k⟩, ⟨c, i, z, rfl, ⟨a0, m0, e0⟩, ⟨a1, m1, e1⟩, ⟨a2, m2, e2⟩, ⟨a3, m3, e3⟩, ⟨a4, m4, e4⟩, ⟨a5, m5, e5⟩, ⟨a6, m6, e6⟩, ⟨a7, m7, e7⟩, ⟨a8, m8, e8⟩, ⟨a9, m9, e9⟩⟩⟩, hx⟩
end DL
namespace K12
open PySem PySem.Spec PyProof.Rows L2 DL LamX HotX KB
section
variable {P : Program} {w : World} {K : PySem.W.Frag} {mg : Str → Option Value} {h : Heap}
theorem all_mk {fa : Addr} (X : K.In h) (G : h.Ns mainGlobals mg) (hfa : mg "law" = some (.ref fa))
    {f_is_whole : Addr} {oc_is_whole kV_is_whole dc_is_whole pm_is_whole cd_is_whole ct_is_whole : Value} {od_is_whole an_is_whole : Option Addr} {sl_is_whole : Array (Option Value)} (da_is_whole : PySem.W.nsIn K mainGlobals "is_whole" = some (some (.ref f_is_whole))) (dl_is_whole : K.lookup f_is_whole = some ⟨oc_is_whole, od_is_whole, .func (PySem.W.fnOf "is_whole" "is_whole" (defArgs s_is_whole) (defBody s_is_whole) (defScope s_is_whole) .none kV_is_whole dc_is_whole pm_is_whole an_is_whole cd_is_whole ct_is_whole), sl_is_whole⟩) (dc__is_whole : PySem.W.codeIn K cd_is_whole "is_whole" = true) (dk_is_whole : PySem.W.keepIn K (.ref f_is_whole) = true)
    {f_is_within : Addr} {oc_is_within kV_is_within dc_is_within pm_is_within cd_is_within ct_is_within : Value} {od_is_within an_is_within : Option Addr} {sl_is_within : Array (Option Value)} (da_is_within : PySem.W.nsIn K mainGlobals "is_within" = some (some (.ref f_is_within))) (dl_is_within : K.lookup f_is_within = some ⟨oc_is_within, od_is_within, .func (PySem.W.fnOf "is_within" "is_within" (defArgs s_is_within) (defBody s_is_within) (defScope s_is_within) .none kV_is_within dc_is_within pm_is_within an_is_within cd_is_within ct_is_within), sl_is_within⟩) (dc__is_within : PySem.W.codeIn K cd_is_within "is_within" = true) (dk_is_within : PySem.W.keepIn K (.ref f_is_within) = true)
    {f_comes_up : Addr} {oc_comes_up kV_comes_up dc_comes_up pm_comes_up cd_comes_up ct_comes_up : Value} {od_comes_up an_comes_up : Option Addr} {sl_comes_up : Array (Option Value)} (da_comes_up : PySem.W.nsIn K mainGlobals "comes_up" = some (some (.ref f_comes_up))) (dl_comes_up : K.lookup f_comes_up = some ⟨oc_comes_up, od_comes_up, .func (PySem.W.fnOf "comes_up" "comes_up" (defArgs s_comes_up) (defBody s_comes_up) (defScope s_comes_up) .none kV_comes_up dc_comes_up pm_comes_up an_comes_up cd_comes_up ct_comes_up), sl_comes_up⟩) (dc__comes_up : PySem.W.codeIn K cd_comes_up "comes_up" = true) (dk_comes_up : PySem.W.keepIn K (.ref f_comes_up) = true)
    {f_is_field : Addr} {oc_is_field kV_is_field dc_is_field pm_is_field cd_is_field ct_is_field : Value} {od_is_field an_is_field : Option Addr} {sl_is_field : Array (Option Value)} (da_is_field : PySem.W.nsIn K mainGlobals "is_field" = some (some (.ref f_is_field))) (dl_is_field : K.lookup f_is_field = some ⟨oc_is_field, od_is_field, .func (PySem.W.fnOf "is_field" "is_field" (defArgs s_is_field) (defBody s_is_field) (defScope s_is_field) .none kV_is_field dc_is_field pm_is_field an_is_field cd_is_field ct_is_field), sl_is_field⟩) (dc__is_field : PySem.W.codeIn K cd_is_field "is_field" = true) (dk_is_field : PySem.W.keepIn K (.ref f_is_field) = true)
    {f_look_at_field : Addr} {oc_look_at_field kV_look_at_field dc_look_at_field pm_look_at_field cd_look_at_field ct_look_at_field : Value} {od_look_at_field an_look_at_field : Option Addr} {sl_look_at_field : Array (Option Value)} (da_look_at_field : PySem.W.nsIn K mainGlobals "look_at_field" = some (some (.ref f_look_at_field))) (dl_look_at_field : K.lookup f_look_at_field = some ⟨oc_look_at_field, od_look_at_field, .func (PySem.W.fnOf "look_at_field" "look_at_field" (defArgs s_look_at_field) (defBody s_look_at_field) (defScope s_look_at_field) .none kV_look_at_field dc_look_at_field pm_look_at_field an_look_at_field cd_look_at_field ct_look_at_field), sl_look_at_field⟩) (dc__look_at_field : PySem.W.codeIn K cd_look_at_field "look_at_field" = true) (dk_look_at_field : PySem.W.keepIn K (.ref f_look_at_field) = true)
    {f_look_at_one : Addr} {oc_look_at_one kV_look_at_one dc_look_at_one pm_look_at_one cd_look_at_one ct_look_at_one : Value} {od_look_at_one an_look_at_one : Option Addr} {sl_look_at_one : Array (Option Value)} (da_look_at_one : PySem.W.nsIn K mainGlobals "look_at_one" = some (some (.ref f_look_at_one))) (dl_look_at_one : K.lookup f_look_at_one = some ⟨oc_look_at_one, od_look_at_one, .func (PySem.W.fnOf "look_at_one" "look_at_one" (defArgs s_look_at_one) (defBody s_look_at_one) (defScope s_look_at_one) .none kV_look_at_one dc_look_at_one pm_look_at_one an_look_at_one cd_look_at_one ct_look_at_one), sl_look_at_one⟩) (dc__look_at_one : PySem.W.codeIn K cd_look_at_one "look_at_one" = true) (dk_look_at_one : PySem.W.keepIn K (.ref f_look_at_one) = true)
    {f_way_up : Addr} {oc_way_up kV_way_up dc_way_up pm_way_up cd_way_up ct_way_up : Value} {od_way_up an_way_up : Option Addr} {sl_way_up : Array (Option Value)} (da_way_up : PySem.W.nsIn K mainGlobals "way_up" = some (some (.ref f_way_up))) (dl_way_up : K.lookup f_way_up = some ⟨oc_way_up, od_way_up, .func (PySem.W.fnOf "way_up" "way_up" (defArgs s_way_up) (defBody s_way_up) (defScope s_way_up) .none kV_way_up dc_way_up pm_way_up an_way_up cd_way_up ct_way_up), sl_way_up⟩) (dc__way_up : PySem.W.codeIn K cd_way_up "way_up" = true) (dk_way_up : PySem.W.keepIn K (.ref f_way_up) = true)
    {f_sizes_of : Addr} {oc_sizes_of kV_sizes_of dc_sizes_of pm_sizes_of cd_sizes_of ct_sizes_of : Value} {od_sizes_of an_sizes_of : Option Addr} {sl_sizes_of : Array (Option Value)} (da_sizes_of : PySem.W.nsIn K mainGlobals "sizes_of" = some (some (.ref f_sizes_of))) (dl_sizes_of : K.lookup f_sizes_of = some ⟨oc_sizes_of, od_sizes_of, .func (PySem.W.fnOf "sizes_of" "sizes_of" (defArgs s_sizes_of) (defBody s_sizes_of) (defScope s_sizes_of) .none kV_sizes_of dc_sizes_of pm_sizes_of an_sizes_of cd_sizes_of ct_sizes_of), sl_sizes_of⟩) (dc__sizes_of : PySem.W.codeIn K cd_sizes_of "sizes_of" = true) (dk_sizes_of : PySem.W.keepIn K (.ref f_sizes_of) = true)
    {f_part_of : Addr} {oc_part_of kV_part_of dc_part_of pm_part_of cd_part_of ct_part_of : Value} {od_part_of an_part_of : Option Addr} {sl_part_of : Array (Option Value)} (da_part_of : PySem.W.nsIn K mainGlobals "part_of" = some (some (.ref f_part_of))) (dl_part_of : K.lookup f_part_of = some ⟨oc_part_of, od_part_of, .func (PySem.W.fnOf "part_of" "part_of" (defArgs s_part_of) (defBody s_part_of) (defScope s_part_of) .none kV_part_of dc_part_of pm_part_of an_part_of cd_part_of ct_part_of), sl_part_of⟩) (dc__part_of : PySem.W.codeIn K cd_part_of "part_of" = true) (dk_part_of : PySem.W.keepIn K (.ref f_part_of) = true)
    {f_common : Addr} {oc_common kV_common dc_common pm_common cd_common ct_common : Value} {od_common an_common : Option Addr} {sl_common : Array (Option Value)} (da_common : PySem.W.nsIn K mainGlobals "common" = some (some (.ref f_common))) (dl_common : K.lookup f_common = some ⟨oc_common, od_common, .func (PySem.W.fnOf "common" "common" (defArgs s_common) (defBody s_common) (defScope s_common) .none kV_common dc_common pm_common an_common cd_common ct_common), sl_common⟩) (dc__common : PySem.W.codeIn K cd_common "common" = true) (dk_common : PySem.W.keepIn K (.ref f_common) = true)
    {f_reduced : Addr} {oc_reduced kV_reduced dc_reduced pm_reduced cd_reduced ct_reduced : Value} {od_reduced an_reduced : Option Addr} {sl_reduced : Array (Option Value)} (da_reduced : PySem.W.nsIn K mainGlobals "reduced" = some (some (.ref f_reduced))) (dl_reduced : K.lookup f_reduced = some ⟨oc_reduced, od_reduced, .func (PySem.W.fnOf "reduced" "reduced" (defArgs s_reduced) (defBody s_reduced) (defScope s_reduced) .none kV_reduced dc_reduced pm_reduced an_reduced cd_reduced ct_reduced), sl_reduced⟩) (dc__reduced : PySem.W.codeIn K cd_reduced "reduced" = true) (dk_reduced : PySem.W.keepIn K (.ref f_reduced) = true)
    {f_race_of : Addr} {oc_race_of kV_race_of dc_race_of pm_race_of cd_race_of ct_race_of : Value} {od_race_of an_race_of : Option Addr} {sl_race_of : Array (Option Value)} (da_race_of : PySem.W.nsIn K mainGlobals "race_of" = some (some (.ref f_race_of))) (dl_race_of : K.lookup f_race_of = some ⟨oc_race_of, od_race_of, .func (PySem.W.fnOf "race_of" "race_of" (defArgs s_race_of) (defBody s_race_of) (defScope s_race_of) .none kV_race_of dc_race_of pm_race_of an_race_of cd_race_of ct_race_of), sl_race_of⟩) (dc__race_of : PySem.W.codeIn K cd_race_of "race_of" = true) (dk_race_of : PySem.W.keepIn K (.ref f_race_of) = true)
    {f_share_ahead : Addr} {oc_share_ahead kV_share_ahead dc_share_ahead pm_share_ahead cd_share_ahead ct_share_ahead : Value} {od_share_ahead an_share_ahead : Option Addr} {sl_share_ahead : Array (Option Value)} (da_share_ahead : PySem.W.nsIn K mainGlobals "share_ahead" = some (some (.ref f_share_ahead))) (dl_share_ahead : K.lookup f_share_ahead = some ⟨oc_share_ahead, od_share_ahead, .func (PySem.W.fnOf "share_ahead" "share_ahead" (defArgs s_share_ahead) (defBody s_share_ahead) (defScope s_share_ahead) .none kV_share_ahead dc_share_ahead pm_share_ahead an_share_ahead cd_share_ahead ct_share_ahead), sl_share_ahead⟩) (dc__share_ahead : PySem.W.codeIn K cd_share_ahead "share_ahead" = true) (dk_share_ahead : PySem.W.keepIn K (.ref f_share_ahead) = true)
    {f__law_well : Addr} {oc__law_well kV__law_well dc__law_well pm__law_well cd__law_well ct__law_well : Value} {od__law_well an__law_well : Option Addr} {sl__law_well : Array (Option Value)} (da__law_well : PySem.W.nsIn K mainGlobals "_law_well" = some (some (.ref f__law_well))) (dl__law_well : K.lookup f__law_well = some ⟨oc__law_well, od__law_well, .func (PySem.W.fnOf "_law_well" "_law_well" (defArgs s__law_well) (defBody s__law_well) (defScope s__law_well) .none kV__law_well dc__law_well pm__law_well an__law_well cd__law_well ct__law_well), sl__law_well⟩) (dc___law_well : PySem.W.codeIn K cd__law_well "_law_well" = true) (dk__law_well : PySem.W.keepIn K (.ref f__law_well) = true)
    {f__law_take : Addr} {oc__law_take kV__law_take dc__law_take pm__law_take cd__law_take ct__law_take : Value} {od__law_take an__law_take : Option Addr} {sl__law_take : Array (Option Value)} (da__law_take : PySem.W.nsIn K mainGlobals "_law_take" = some (some (.ref f__law_take))) (dl__law_take : K.lookup f__law_take = some ⟨oc__law_take, od__law_take, .func (PySem.W.fnOf "_law_take" "_law_take" (defArgs s__law_take) (defBody s__law_take) (defScope s__law_take) .none kV__law_take dc__law_take pm__law_take an__law_take cd__law_take ct__law_take), sl__law_take⟩) (dc___law_take : PySem.W.codeIn K cd__law_take "_law_take" = true) (dk__law_take : PySem.W.keepIn K (.ref f__law_take) = true)
    {f__law_bags : Addr} {oc__law_bags kV__law_bags dc__law_bags pm__law_bags cd__law_bags ct__law_bags : Value} {od__law_bags an__law_bags : Option Addr} {sl__law_bags : Array (Option Value)} (da__law_bags : PySem.W.nsIn K mainGlobals "_law_bags" = some (some (.ref f__law_bags))) (dl__law_bags : K.lookup f__law_bags = some ⟨oc__law_bags, od__law_bags, .func (PySem.W.fnOf "_law_bags" "_law_bags" (defArgs s__law_bags) (defBody s__law_bags) (defScope s__law_bags) .none kV__law_bags dc__law_bags pm__law_bags an__law_bags cd__law_bags ct__law_bags), sl__law_bags⟩) (dc___law_bags : PySem.W.codeIn K cd__law_bags "_law_bags" = true) (dk__law_bags : PySem.W.keepIn K (.ref f__law_bags) = true)
    {f__law_same : Addr} {oc__law_same kV__law_same dc__law_same pm__law_same cd__law_same ct__law_same : Value} {od__law_same an__law_same : Option Addr} {sl__law_same : Array (Option Value)} (da__law_same : PySem.W.nsIn K mainGlobals "_law_same" = some (some (.ref f__law_same))) (dl__law_same : K.lookup f__law_same = some ⟨oc__law_same, od__law_same, .func (PySem.W.fnOf "_law_same" "_law_same" (defArgs s__law_same) (defBody s__law_same) (defScope s__law_same) .none kV__law_same dc__law_same pm__law_same an__law_same cd__law_same ct__law_same), sl__law_same⟩) (dc___law_same : PySem.W.codeIn K cd__law_same "_law_same" = true) (dk__law_same : PySem.W.keepIn K (.ref f__law_same) = true)
    {f__law_field : Addr} {oc__law_field kV__law_field dc__law_field pm__law_field cd__law_field ct__law_field : Value} {od__law_field an__law_field : Option Addr} {sl__law_field : Array (Option Value)} (da__law_field : PySem.W.nsIn K mainGlobals "_law_field" = some (some (.ref f__law_field))) (dl__law_field : K.lookup f__law_field = some ⟨oc__law_field, od__law_field, .func (PySem.W.fnOf "_law_field" "_law_field" (defArgs s__law_field) (defBody s__law_field) (defScope s__law_field) .none kV__law_field dc__law_field pm__law_field an__law_field cd__law_field ct__law_field), sl__law_field⟩) (dc___law_field : PySem.W.codeIn K cd__law_field "_law_field" = true) (dk__law_field : PySem.W.keepIn K (.ref f__law_field) = true)
    {f__law_orders : Addr} {oc__law_orders kV__law_orders dc__law_orders pm__law_orders cd__law_orders ct__law_orders : Value} {od__law_orders an__law_orders : Option Addr} {sl__law_orders : Array (Option Value)} (da__law_orders : PySem.W.nsIn K mainGlobals "_law_orders" = some (some (.ref f__law_orders))) (dl__law_orders : K.lookup f__law_orders = some ⟨oc__law_orders, od__law_orders, .func (PySem.W.fnOf "_law_orders" "_law_orders" (defArgs s__law_orders) (defBody s__law_orders) (defScope s__law_orders) .none kV__law_orders dc__law_orders pm__law_orders an__law_orders cd__law_orders ct__law_orders), sl__law_orders⟩) (dc___law_orders : PySem.W.codeIn K cd__law_orders "_law_orders" = true) (dk__law_orders : PySem.W.keepIn K (.ref f__law_orders) = true)
    {f__law_reduced : Addr} {oc__law_reduced kV__law_reduced dc__law_reduced pm__law_reduced cd__law_reduced ct__law_reduced : Value} {od__law_reduced an__law_reduced : Option Addr} {sl__law_reduced : Array (Option Value)} (da__law_reduced : PySem.W.nsIn K mainGlobals "_law_reduced" = some (some (.ref f__law_reduced))) (dl__law_reduced : K.lookup f__law_reduced = some ⟨oc__law_reduced, od__law_reduced, .func (PySem.W.fnOf "_law_reduced" "_law_reduced" (defArgs s__law_reduced) (defBody s__law_reduced) (defScope s__law_reduced) .none kV__law_reduced dc__law_reduced pm__law_reduced an__law_reduced cd__law_reduced ct__law_reduced), sl__law_reduced⟩) (dc___law_reduced : PySem.W.codeIn K cd__law_reduced "_law_reduced" = true) (dk__law_reduced : PySem.W.keepIn K (.ref f__law_reduced) = true)
    {f__law_kind : Addr} {oc__law_kind kV__law_kind dc__law_kind pm__law_kind cd__law_kind ct__law_kind : Value} {od__law_kind an__law_kind : Option Addr} {sl__law_kind : Array (Option Value)} (da__law_kind : PySem.W.nsIn K mainGlobals "_law_kind" = some (some (.ref f__law_kind))) (dl__law_kind : K.lookup f__law_kind = some ⟨oc__law_kind, od__law_kind, .func (PySem.W.fnOf "_law_kind" "_law_kind" (defArgs s__law_kind) (defBody s__law_kind) (defScope s__law_kind) .none kV__law_kind dc__law_kind pm__law_kind an__law_kind cd__law_kind ct__law_kind), sl__law_kind⟩) (dc___law_kind : PySem.W.codeIn K cd__law_kind "_law_kind" = true) (dk__law_kind : PySem.W.keepIn K (.ref f__law_kind) = true)
    {f__law_tried : Addr} {oc__law_tried kV__law_tried dc__law_tried pm__law_tried cd__law_tried ct__law_tried : Value} {od__law_tried an__law_tried : Option Addr} {sl__law_tried : Array (Option Value)} (da__law_tried : PySem.W.nsIn K mainGlobals "_law_tried" = some (some (.ref f__law_tried))) (dl__law_tried : K.lookup f__law_tried = some ⟨oc__law_tried, od__law_tried, .func (PySem.W.fnOf "_law_tried" "_law_tried" (defArgs s__law_tried) (defBody s__law_tried) (defScope s__law_tried) .none kV__law_tried dc__law_tried pm__law_tried an__law_tried cd__law_tried ct__law_tried), sl__law_tried⟩) (dc___law_tried : PySem.W.codeIn K cd__law_tried "_law_tried" = true) (dk__law_tried : PySem.W.keepIn K (.ref f__law_tried) = true)
    {f_law : Addr} {oc_law kV_law dc_law pm_law  ct_law : Value} {od_law an_law : Option Addr} {sl_law : Array (Option Value)} {c_law P_law : Addr} (da_law : PySem.W.nsIn K mainGlobals "law" = some (some (.ref f_law))) (dl_law : K.lookup f_law = some ⟨oc_law, od_law, .func (PySem.W.fnOf "law" "law" (defArgs s_law) (defBody s_law) (defScope s_law) .none kV_law dc_law pm_law an_law (.ref c_law) ct_law), sl_law⟩) (dc__law : PySem.W.codeIn K (.ref c_law) "law" = true) (dk_law : PySem.W.keepIn K (.ref f_law) = true)
    {coc : Value} {cod : Option Addr} {cvs : Array Value} {csl : Array (Option Value)} (lc : K.lookup c_law = some ⟨coc, cod, .fields cvs, csl⟩) (lp : cvs[11]? = some (.ref P_law)) (tO : h.get? P_law = some tabO) (tN : K.lookup P_law = none) (tC : PySem.W.CodeHd h c_law P_law)
    {a_CupError : Addr} (ea_CupError : PySem.W.nsIn K mainGlobals "CupError" = some (some (.ref a_CupError)))
    {a_NoCup : Addr} (ea_NoCup : PySem.W.nsIn K mainGlobals "NoCup" = some (some (.ref a_NoCup)))
    {a_NoField : Addr} (ea_NoField : PySem.W.nsIn K mainGlobals "NoField" = some (some (.ref a_NoField)))
    {a_NoNumber : Addr} (ea_NoNumber : PySem.W.nsIn K mainGlobals "NoNumber" = some (some (.ref a_NoNumber)))
    {a_NoOrder : Addr} (ea_NoOrder : PySem.W.nsIn K mainGlobals "NoOrder" = some (some (.ref a_NoOrder)))
    {a_NoPlayer : Addr} (ea_NoPlayer : PySem.W.nsIn K mainGlobals "NoPlayer" = some (some (.ref a_NoPlayer)))
    {a_NoRace : Addr} (ea_NoRace : PySem.W.nsIn K mainGlobals "NoRace" = some (some (.ref a_NoRace)))
    {a_NoText : Addr} (ea_NoText : PySem.W.nsIn K mainGlobals "NoText" = some (some (.ref a_NoText)))
    {a_NotPeers : Addr} (ea_NotPeers : PySem.W.nsIn K mainGlobals "NotPeers" = some (some (.ref a_NotPeers)))
    {a_NothingLeft : Addr} (ea_NothingLeft : PySem.W.nsIn K mainGlobals "NothingLeft" = some (some (.ref a_NothingLeft)))
    {a_TooMany : Addr} (ea_TooMany : PySem.W.nsIn K mainGlobals "TooMany" = some (some (.ref a_TooMany)))
    (eb_NoField : PySem.W.excIn K a_NoField [.type "ValueError", .type "Exception", .type "BaseException", .type "object"] "ValueError.__new__" = true) (ec_NoField : PySem.W.keepIn K (.ref a_NoField) = true) (ed_NoField : PySem.W.subIn K (.ref a_NoField) (.type "BaseException") = some true) (ee_NoField : PySem.W.typeIn K (.ref a_NoField) = some (.type "type"))
    (eb_NoPlayer : PySem.W.excIn K a_NoPlayer [.type "ValueError", .type "Exception", .type "BaseException", .type "object"] "ValueError.__new__" = true) (ec_NoPlayer : PySem.W.keepIn K (.ref a_NoPlayer) = true) (ed_NoPlayer : PySem.W.subIn K (.ref a_NoPlayer) (.type "BaseException") = some true) (ee_NoPlayer : PySem.W.typeIn K (.ref a_NoPlayer) = some (.type "type"))
    (kc_NoPlayer : ExcC K a_NoPlayer) (kb_NoPlayer : clsB K a_NoPlayer [a_NoCup, a_NoPlayer, a_NoNumber, a_NoOrder, a_NoField, a_NoRace, a_NotPeers, a_NothingLeft, a_TooMany, a_NoText] a_CupError [false, true, false, false, false, false, false, false, false, false] = true)
    (kc_NoField : ExcC K a_NoField) (kb_NoField : clsB K a_NoField [a_NoCup, a_NoPlayer, a_NoNumber, a_NoOrder, a_NoField, a_NoRace, a_NotPeers, a_NothingLeft, a_TooMany, a_NoText] a_CupError [false, false, false, false, true, false, false, false, false, false] = true)
    (z_all : PySem.W.nsIn K mainGlobals "all" = some none)
    (z_bool : PySem.W.nsIn K mainGlobals "bool" = some none)
    (z_enumerate : PySem.W.nsIn K mainGlobals "enumerate" = some none)
    (z_int : PySem.W.nsIn K mainGlobals "int" = some none)
    (z_isinstance : PySem.W.nsIn K mainGlobals "isinstance" = some none)
    (z_len : PySem.W.nsIn K mainGlobals "len" = some none)
    (z_list : PySem.W.nsIn K mainGlobals "list" = some none)
    (z_max : PySem.W.nsIn K mainGlobals "max" = some none)
    (z_range : PySem.W.nsIn K mainGlobals "range" = some none)
    (z_str : PySem.W.nsIn K mainGlobals "str" = some none)
    (z_tuple : PySem.W.nsIn K mainGlobals "tuple" = some none)
    (z_zip : PySem.W.nsIn K mainGlobals "zip" = some none)
    {t_MOST_FIELD : Tok} (n_MOST_FIELD : PySem.W.nsIn K mainGlobals "MOST_FIELD" = some (some (.int 60 t_MOST_FIELD))) :
    ∃ (fd : FuncData) (cs : List (Addr × Addr)), (∀ p ∈ cs, h.get? p.2 = some tabO) ∧ (∀ p ∈ cs, K.lookup p.2 = none) ∧ (∀ p ∈ cs, PySem.W.CodeHd h p.1 p.2) ∧ (∀ (s : Shared) (u : Value), BindsTo s fd ⟨[u], []⟩ [("script", u)]) ∧
      ∀ base : Heap, K.In base → base.Ns mainGlobals mg → (∀ p ∈ cs, TabB base mg p.1 p.2) → FnOk P w K mg base (L2N.CX P w) 66 fa fd ["script"] (spLawT K cs) := by
  have m_CupError := PySem.W.mg_of X G ea_CupError
  have m_NoCup := PySem.W.mg_of X G ea_NoCup
  have m_NoField := PySem.W.mg_of X G ea_NoField
  have m_NoNumber := PySem.W.mg_of X G ea_NoNumber
  have m_NoOrder := PySem.W.mg_of X G ea_NoOrder
  have m_NoPlayer := PySem.W.mg_of X G ea_NoPlayer
  have m_NoRace := PySem.W.mg_of X G ea_NoRace
  have m_NoText := PySem.W.mg_of X G ea_NoText
  have m_NotPeers := PySem.W.mg_of X G ea_NotPeers
  have m_NothingLeft := PySem.W.mg_of X G ea_NothingLeft
  have m_TooMany := PySem.W.mg_of X G ea_TooMany
  have x_NoField : ExF K mg "NoField" a_NoField := ⟨m_NoField, eb_NoField, ec_NoField, ed_NoField, ee_NoField⟩
  have x_NoPlayer : ExF K mg "NoPlayer" a_NoPlayer := ⟨m_NoPlayer, eb_NoPlayer, ec_NoPlayer, ed_NoPlayer, ee_NoPlayer⟩
  have b_all := PySem.W.mg_none_of X G z_all
  have b_bool := PySem.W.mg_none_of X G z_bool
  have b_enumerate := PySem.W.mg_none_of X G z_enumerate
  have b_int := PySem.W.mg_none_of X G z_int
  have b_isinstance := PySem.W.mg_none_of X G z_isinstance
  have b_len := PySem.W.mg_none_of X G z_len
  have b_list := PySem.W.mg_none_of X G z_list
  have b_max := PySem.W.mg_none_of X G z_max
  have b_range := PySem.W.mg_none_of X G z_range
  have b_str := PySem.W.mg_none_of X G z_str
  have b_tuple := PySem.W.mg_none_of X G z_tuple
  have b_zip := PySem.W.mg_none_of X G z_zip
  have c_MOST_FIELD : ∃ t, mg "MOST_FIELD" = some (.int 60 t) := ⟨_, PySem.W.mg_of X G n_MOST_FIELD⟩
  have kn_NoPlayer : Knd K mg a_NoPlayer "NoPlayer" := knd_of kc_NoPlayer kb_NoPlayer m_NoCup m_NoPlayer m_NoNumber m_NoOrder m_NoField m_NoRace m_NotPeers m_NothingLeft m_TooMany m_NoText m_CupError b_isinstance b_zip (by decide)
  have kn_NoField : Knd K mg a_NoField "NoField" := knd_of kc_NoField kb_NoField m_NoCup m_NoPlayer m_NoNumber m_NoOrder m_NoField m_NoRace m_NotPeers m_NothingLeft m_TooMany m_NoText m_CupError b_isinstance b_zip (by decide)
  have F_is_whole : FnF K mg "is_whole" s_is_whole ["thing"] := FnF.mk' (PySem.W.mg_of X G da_is_whole) (fun_mk (st := s_is_whole) dl_is_whole dc__is_whole dk_is_whole) fun _ _ _ _ _ _ us hl => match us, hl with | [_], _ => rfl
  have F_is_within : FnF K mg "is_within" s_is_within ["thing", "low", "high"] := FnF.mk' (PySem.W.mg_of X G da_is_within) (fun_mk (st := s_is_within) dl_is_within dc__is_within dk_is_within) fun _ _ _ _ _ _ us hl => match us, hl with | [_, _, _], _ => rfl
  have F_comes_up : FnF K mg "comes_up" s_comes_up ["field", "player"] := FnF.mk' (PySem.W.mg_of X G da_comes_up) (fun_mk (st := s_comes_up) dl_comes_up dc__comes_up dk_comes_up) fun _ _ _ _ _ _ us hl => match us, hl with | [_, _], _ => rfl
  have F_is_field : FnF K mg "is_field" s_is_field ["value"] := FnF.mk' (PySem.W.mg_of X G da_is_field) (fun_mk (st := s_is_field) dl_is_field dc__is_field dk_is_field) fun _ _ _ _ _ _ us hl => match us, hl with | [_], _ => rfl
  have F_look_at_field : FnF K mg "look_at_field" s_look_at_field ["field"] := FnF.mk' (PySem.W.mg_of X G da_look_at_field) (fun_mk (st := s_look_at_field) dl_look_at_field dc__look_at_field dk_look_at_field) fun _ _ _ _ _ _ us hl => match us, hl with | [_], _ => rfl
  have F_look_at_one : FnF K mg "look_at_one" s_look_at_one ["field", "player"] := FnF.mk' (PySem.W.mg_of X G da_look_at_one) (fun_mk (st := s_look_at_one) dl_look_at_one dc__look_at_one dk_look_at_one) fun _ _ _ _ _ _ us hl => match us, hl with | [_, _], _ => rfl
  have F_way_up : FnF K mg "way_up" s_way_up ["field", "player"] := FnF.mk' (PySem.W.mg_of X G da_way_up) (fun_mk (st := s_way_up) dl_way_up dc__way_up dk_way_up) fun _ _ _ _ _ _ us hl => match us, hl with | [_, _], _ => rfl
  have F_sizes_of : FnF K mg "sizes_of" s_sizes_of ["field"] := FnF.mk' (PySem.W.mg_of X G da_sizes_of) (fun_mk (st := s_sizes_of) dl_sizes_of dc__sizes_of dk_sizes_of) fun _ _ _ _ _ _ us hl => match us, hl with | [_], _ => rfl
  have F_part_of : FnF K mg "part_of" s_part_of ["field", "player"] := FnF.mk' (PySem.W.mg_of X G da_part_of) (fun_mk (st := s_part_of) dl_part_of dc__part_of dk_part_of) fun _ _ _ _ _ _ us hl => match us, hl with | [_, _], _ => rfl
  have F_common : FnF K mg "common" s_common ["one", "other"] := FnF.mk' (PySem.W.mg_of X G da_common) (fun_mk (st := s_common) dl_common dc__common dk_common) fun _ _ _ _ _ _ us hl => match us, hl with | [_, _], _ => rfl
  have F_reduced : FnF K mg "reduced" s_reduced ["top", "bottom"] := FnF.mk' (PySem.W.mg_of X G da_reduced) (fun_mk (st := s_reduced) dl_reduced dc__reduced dk_reduced) fun _ _ _ _ _ _ us hl => match us, hl with | [_, _], _ => rfl
  have F_race_of : FnF K mg "race_of" s_race_of ["one", "other"] := FnF.mk' (PySem.W.mg_of X G da_race_of) (fun_mk (st := s_race_of) dl_race_of dc__race_of dk_race_of) fun _ _ _ _ _ _ us hl => match us, hl with | [_, _], _ => rfl
  have F_share_ahead : FnF K mg "share_ahead" s_share_ahead ["field", "first", "second"] := FnF.mk' (PySem.W.mg_of X G da_share_ahead) (fun_mk (st := s_share_ahead) dl_share_ahead dc__share_ahead dk_share_ahead) fun _ _ _ _ _ _ us hl => match us, hl with | [_, _, _], _ => rfl
  have F__law_well : FnF K mg "_law_well" s__law_well ["cell", "turn"] := FnF.mk' (PySem.W.mg_of X G da__law_well) (fun_mk (st := s__law_well) dl__law_well dc___law_well dk__law_well) fun _ _ _ _ _ _ us hl => match us, hl with | [_, _], _ => rfl
  have F__law_take : FnF K mg "_law_take" s__law_take ["bag", "many"] := FnF.mk' (PySem.W.mg_of X G da__law_take) (fun_mk (st := s__law_take) dl__law_take dc___law_take dk__law_take) fun _ _ _ _ _ _ us hl => match us, hl with | [_, _], _ => rfl
  have F__law_bags : FnF K mg "_law_bags" s__law_bags ["script", "most"] := FnF.mk' (PySem.W.mg_of X G da__law_bags) (fun_mk (st := s__law_bags) dl__law_bags dc___law_bags dk__law_bags) fun _ _ _ _ _ _ us hl => match us, hl with | [_, _], _ => rfl
  have F__law_same : FnF K mg "_law_same" s__law_same ["a", "b"] := FnF.mk' (PySem.W.mg_of X G da__law_same) (fun_mk (st := s__law_same) dl__law_same dc___law_same dk__law_same) fun _ _ _ _ _ _ us hl => match us, hl with | [_, _], _ => rfl
  have F__law_field : FnF K mg "_law_field" s__law_field ["bag", "most"] := FnF.mk' (PySem.W.mg_of X G da__law_field) (fun_mk (st := s__law_field) dl__law_field dc___law_field dk__law_field) fun _ _ _ _ _ _ us hl => match us, hl with | [_, _], _ => rfl
  have F__law_orders : FnF K mg "_law_orders" s__law_orders ["field"] := FnF.mk' (PySem.W.mg_of X G da__law_orders) (fun_mk (st := s__law_orders) dl__law_orders dc___law_orders dk__law_orders) fun _ _ _ _ _ _ us hl => match us, hl with | [_], _ => rfl
  have F__law_reduced : FnF K mg "_law_reduced" s__law_reduced ["top", "bottom"] := FnF.mk' (PySem.W.mg_of X G da__law_reduced) (fun_mk (st := s__law_reduced) dl__law_reduced dc___law_reduced dk__law_reduced) fun _ _ _ _ _ _ us hl => match us, hl with | [_, _], _ => rfl
  have F__law_kind : FnF K mg "_law_kind" s__law_kind ["e"] := FnF.mk' (PySem.W.mg_of X G da__law_kind) (fun_mk (st := s__law_kind) dl__law_kind dc___law_kind dk__law_kind) fun _ _ _ _ _ _ us hl => match us, hl with | [_], _ => rfl
  have F__law_tried : FnF K mg "_law_tried" s__law_tried ["call"] := FnF.mk' (PySem.W.mg_of X G da__law_tried) (fun_mk (st := s__law_tried) dl__law_tried dc___law_tried dk__law_tried) fun _ _ _ _ _ _ us hl => match us, hl with | [_], _ => rfl
  have el := hfa.symm.trans (PySem.W.mg_of X G da_law)
  cases el
  refine ⟨PySem.W.fnOf "law" "law" (defArgs s_law) (defBody s_law) (defScope s_law) .none kV_law dc_law pm_law an_law (.ref c_law) ct_law, [(c_law, P_law)], List.forall_mem_cons.mpr ⟨tO, fun _ z => nomatch z⟩, List.forall_mem_cons.mpr ⟨tN, fun _ z => nomatch z⟩, List.forall_mem_cons.mpr ⟨tC, fun _ z => nomatch z⟩, fun s v => ?_, fun base kb gb tb => ?_⟩
  rotate_left
  · obtain ⟨TT, hTT⟩ : ∃ T : Tz, T = [(P_law, ("law.<locals>." : Str) ++ "<lambda>")] := ⟨_, rfl⟩
    have G_common : Cal P w K mg base TT 1 "common" 2 (sp_common) := Cal.of (k := 0) F_common sc_common rfl (t_common) (w_common (k := 0)) fun as Rr _ h => law_common as Rr h
    have G_reduced : Cal P w K mg base TT 2 "reduced" 2 (sp_reduced) := Cal.of (k := 1) F_reduced sc_reduced rfl (t_reduced sp_common) (w_reduced (k := 1) G_common (by decide)) fun as Rr _ h => law_reduced as Rr h
    have G_race_of : Cal P w K mg base TT 3 "race_of" 2 (sp_race_of) := Cal.of (k := 2) F_race_of sc_race_of rfl (t_race_of sp_reduced) (w_race_of (k := 2) G_reduced (by decide) b_enumerate b_len b_range) fun as Rr _ h => law_race_of as Rr h
    have R_way_up : ∀ n, Cal P w K mg base TT n "way_up" 2 (sp_way_up n) := fun n => by
      induction n with
      | zero => exact Cal.none F_way_up rfl fun as Rr z => by obtain ⟨_, _, _, _, hc, _⟩ := z; cases hc
      | succ n ih => exact Cal.of F_way_up sc_way_up rfl (t_way_up (sp_way_up n)) (w_way_up ih (Nat.le_refl _)) fun as Rr _ h => law_way_up as Rr h
    have G_way_up : Cal P w K mg base TT 60 "way_up" 2 (sp_wayA) := (R_way_up 60).imp wayA_of
    have G_part_of : Cal P w K mg base TT 61 "part_of" 2 (sp_part_of) := Cal.of (k := 60) F_part_of sc_part_of rfl (t_part_of sp_wayA) (w_part_of (k := 60) G_way_up (by decide) b_len b_range) fun as Rr _ h => law_part_of as Rr h
    have G_sizes_of : Cal P w K mg base TT 62 "sizes_of" 1 (sp_sizes_of) := Cal.of (k := 61) F_sizes_of sc_sizes_of rfl (t_sizes_of sp_part_of) (w_sizes_of (k := 61) G_part_of (by decide) b_len b_range) fun as Rr _ h => law_sizes_of as Rr h
    have G_is_whole : Cal P w K mg base TT 1 "is_whole" 1 (sp_is_whole) := Cal.of (k := 0) F_is_whole sc_is_whole rfl (t_is_whole) (w_is_whole (k := 0) b_bool b_int b_isinstance) fun as Rr _ h => law_is_whole as Rr h
    have G_is_within : Cal P w K mg base TT 2 "is_within" 3 (sp_is_within) := Cal.of (k := 1) F_is_within sc_is_within rfl (t_is_within sp_is_whole) (w_is_within (k := 1) G_is_whole (by decide)) fun as Rr _ h => law_is_within as Rr h
    have G_look_at_one : Cal P w K mg base TT 3 "look_at_one" 2 (sp_look_at_one a_NoPlayer) := Cal.of (k := 2) F_look_at_one sc_look_at_one rfl (t_look_at_one a_NoPlayer sp_is_within) (w_look_at_one (k := 2) G_is_within (by decide) b_len x_NoPlayer) fun as Rr _ h => law_look_at_one as Rr h
    have G_comes_up : Cal P w K mg base TT 1 "comes_up" 2 (sp_comes_up) := Cal.of (k := 0) F_comes_up sc_comes_up rfl (t_comes_up) (w_comes_up (k := 0) b_len b_range) fun as Rr _ h => law_comes_up as Rr h
    have G_is_field : Cal P w K mg base TT 3 "is_field" 1 (sp_is_field) := Cal.of (k := 2) F_is_field sc_is_field rfl (t_is_field sp_comes_up sp_is_within) (w_is_field (k := 2) G_comes_up (by decide) G_is_within (by decide) b_all b_isinstance b_len b_range b_tuple c_MOST_FIELD) fun as Rr _ h => law_is_field as Rr h
    have G_look_at_field : Cal P w K mg base TT 4 "look_at_field" 1 (sp_look_at_field a_NoField) := Cal.of (k := 3) F_look_at_field sc_look_at_field rfl (t_look_at_field a_NoField sp_is_field) (w_look_at_field (k := 3) G_is_field (by decide) x_NoField) fun as Rr _ h => law_look_at_field as Rr h
    have G_share_ahead : Cal P w K mg base TT 63 "share_ahead" 3 (sp_shareE a_NoField a_NoPlayer) := Cal.of (k := 62) F_share_ahead sc_share_ahead rfl (t_share_ahead sp_race_of sp_sizes_of sp_wayA (sp_look_at_one a_NoPlayer) (sp_look_at_field a_NoField)) (w_share_ahead (k := 62) G_race_of (by decide) G_sizes_of (by decide) G_way_up (by decide) G_look_at_one (by decide) G_look_at_field (by decide) b_int b_tuple) fun as Rr _ h => law_shareE as Rr h
    have G__law_reduced : Cal P w K mg base TT 1 "_law_reduced" 2 (sp_reduced) := Cal.of (k := 0) F__law_reduced sc__law_reduced rfl (t__law_reduced) (w__law_reduced (k := 0)) fun as Rr _ h => law__reduced as Rr h
    have R__law_same : ∀ n, Cal P w K mg base TT n "_law_same" 2 (sp_same n) := fun n => by
      induction n with
      | zero => exact Cal.none F__law_same rfl fun as Rr z => by obtain ⟨_, _, hc, _⟩ := z; exact hc
      | succ n ih => exact Cal.of F__law_same sc__law_same rfl (t__law_same (sp_same n)) (w__law_same ih (Nat.le_refl _) b_all b_bool b_int b_isinstance b_len b_list b_str b_tuple b_zip) fun as Rr _ h => law__same as Rr h
    have G__law_same : Cal P w K mg base TT 3 "_law_same" 2 (sp_same 3) := R__law_same 3
    have G__law_orders : Cal P w K mg base TT 1 "_law_orders" 1 (sp_lorders) := Cal.of (k := 0) F__law_orders sc__law_orders rfl (t__law_orders_2) (w__law_orders (k := 0) b_enumerate) fun as Rr _ h => law__orders as Rr h
    have G__law_take : Cal P w K mg base TT 1 "_law_take" 2 (sp_take) := Cal.of (k := 0) F__law_take sc__law_take rfl (t__law_take) (w__law_take (k := 0)) fun as Rr _ h => law__take as Rr h
    have G__law_field : Cal P w K mg base TT 2 "_law_field" 2 (sp_field) := Cal.of (k := 1) F__law_field sc__law_field rfl (t__law_field sp_take) (w__law_field (k := 1) G__law_take (by decide) b_len b_max b_range b_tuple) fun as Rr _ h => law__field as Rr h
    have G__law_well : Cal P w K mg base TT 1 "_law_well" 2 (sp_well) := Cal.of (k := 0) F__law_well sc__law_well rfl (t__law_well) (w__law_well (k := 0)) fun as Rr _ h => law__well as Rr h
    have G__law_bags : Cal P w K mg base TT 2 "_law_bags" 2 (spBags) := Cal.of (k := 1) F__law_bags sc__law_bags rfl (t__law_bags sp_well) (w__law_bags (k := 1) G__law_well (by decide) b_enumerate) fun as Rr _ h => law__bags as Rr h
    have B := tb (c_law, P_law) List.mem_cons_self
    have Tr : TriedAt P w K mg base 63 := tried_at m_TooMany m_NoText m_CupError F__law_tried F__law_kind
    subst hTT
    exact dlawT (k := 65) (tl := tLaw K mg a_NoField a_NoPlayer) dl_law dc__law sc_law (fun p hp => ⟨(c_law, P_law), List.mem_cons_self, by rcases List.mem_singleton.mp hp with rfl; rfl⟩)
      (fun A outer s H E S0 W wf S E2 D ok g l q kk => law_for (C := ⟨cxD P w K mg base N_law "law" s_law fa (.ref c_law) A outer s H E, [(P_law, ("law.<locals>." : Str) ++ "<lambda>")], S0, W, fun _ _ => False, 65⟩) (is := 0) (ib := 1) (m := 5)
        (fun S E3 D ok g0 hF hu q kk => let ⟨_, _, _, g1, g2, g3, g4⟩ := G__law_bags.ex
          (ds_bagsC (C := ⟨cxD P w K mg base N_law "law" s_law fa (.ref c_law) A outer s H E, [(P_law, ("law.<locals>." : Str) ++ "<lambda>")], S0, W, fun _ _ => False, 65⟩) 0 1 (x := "_law_bags") (s := "script") (xb := "bag") g4 (show 2 ≤ 65 by decide) (by exact rfl) g1 g2 g3 rfl (by first | exact Or.inl rfl | exact Or.inr (Or.inl rfl) | exact Or.inr (Or.inr rfl)) rfl (by first | exact Or.inl rfl | exact Or.inr rfl) (Or.inl rfl)
            (fun S0 => w_law_loop (k := 65) Tr (by decide) B G_share_ahead (by decide) (by decide) G__law_reduced (by decide) G__law_same (by decide) G__law_orders (by decide) G__law_field (by decide) b_len b_range _ A outer s H E S0 W _)) wf S E3 D ok g0 hF hu q kk)
        (w_law_rest (k := 65) Tr (by decide) B G_share_ahead (by decide) (by decide) _ A outer s H E S0 W _) wf S E2 D ok g l q kk)
      (fun ns => law_all kn_NoPlayer kn_NoField ns)
  · exact .of_eq rfl
end
end K12
open PySem PySem.W PyProof.Rows in
set_option maxRecDepth 100000 in
set_option maxHeartbeats 0 in
theorem PySem.Challenge.cw_knockback_k12_whole_shares_in_small_fiel_holds : PySem.Challenge.rw_knockback_k12_whole_shares_in_small_fiel.Holds := by
  w_on; o_law; k_head; (case hw => w_witness2)
  k_fill
  refine DL.walk_T (l := PySem.Challenge.rw_knockback_k12_whole_shares_in_small_fiel) (n := 63) (k := 66) rfl (by decide) rfl ⟨rfl, by decide, by decide⟩ (fun w h Y => PySem.W.km_in_of Y) ?F
  case F =>
    intro w mg fa h Y KX G hmg
    refine' K12.all_mk KX G hmg ?da_is_whole ?dl_is_whole ?dc__is_whole ?dk_is_whole ?da_is_within ?dl_is_within ?dc__is_within ?dk_is_within ?da_comes_up ?dl_comes_up ?dc__comes_up ?dk_comes_up ?da_is_field ?dl_is_field ?dc__is_field ?dk_is_field ?da_look_at_field ?dl_look_at_field ?dc__look_at_field ?dk_look_at_field ?da_look_at_one ?dl_look_at_one ?dc__look_at_one ?dk_look_at_one ?da_way_up ?dl_way_up ?dc__way_up ?dk_way_up ?da_sizes_of ?dl_sizes_of ?dc__sizes_of ?dk_sizes_of ?da_part_of ?dl_part_of ?dc__part_of ?dk_part_of ?da_common ?dl_common ?dc__common ?dk_common ?da_reduced ?dl_reduced ?dc__reduced ?dk_reduced ?da_race_of ?dl_race_of ?dc__race_of ?dk_race_of ?da_share_ahead ?dl_share_ahead ?dc__share_ahead ?dk_share_ahead ?da__law_well ?dl__law_well ?dc___law_well ?dk__law_well ?da__law_take ?dl__law_take ?dc___law_take ?dk__law_take ?da__law_bags ?dl__law_bags ?dc___law_bags ?dk__law_bags ?da__law_same ?dl__law_same ?dc___law_same ?dk__law_same ?da__law_field ?dl__law_field ?dc___law_field ?dk__law_field ?da__law_orders ?dl__law_orders ?dc___law_orders ?dk__law_orders ?da__law_reduced ?dl__law_reduced ?dc___law_reduced ?dk__law_reduced ?da__law_kind ?dl__law_kind ?dc___law_kind ?dk__law_kind ?da__law_tried ?dl__law_tried ?dc___law_tried ?dk__law_tried ?da_law ?dl_law ?dc__law ?dk_law ?lc ?lp ?tO ?tN ?tC ?ea_CupError ?ea_NoCup ?ea_NoField ?ea_NoNumber ?ea_NoOrder ?ea_NoPlayer ?ea_NoRace ?ea_NoText ?ea_NotPeers ?ea_NothingLeft ?ea_TooMany ?eb_NoField ?ec_NoField ?ed_NoField ?ee_NoField ?eb_NoPlayer ?ec_NoPlayer ?ed_NoPlayer ?ee_NoPlayer ?kc_NoPlayer ?kb_NoPlayer ?kc_NoField ?kb_NoField ?z_all ?z_bool ?z_enumerate ?z_int ?z_isinstance ?z_len ?z_list ?z_max ?z_range ?z_str ?z_tuple ?z_zip ?n_MOST_FIELD
    (case da_is_whole => k_is)
    (case dl_is_whole => k_is)
    (case dc__is_whole => k_is)
    (case dk_is_whole => k_is)
    (case da_is_within => k_is)
    (case dl_is_within => k_is)
    (case dc__is_within => k_is)
    (case dk_is_within => k_is)
    (case da_comes_up => k_is)
    (case dl_comes_up => k_is)
    (case dc__comes_up => k_is)
    (case dk_comes_up => k_is)
    (case da_is_field => k_is)
    (case dl_is_field => k_is)
    (case dc__is_field => k_is)
    (case dk_is_field => k_is)
    (case da_look_at_field => k_is)
    (case dl_look_at_field => k_is)
    (case dc__look_at_field => k_is)
    (case dk_look_at_field => k_is)
    (case da_look_at_one => k_is)
    (case dl_look_at_one => k_is)
    (case dc__look_at_one => k_is)
    (case dk_look_at_one => k_is)
    (case da_way_up => k_is)
    (case dl_way_up => k_is)
    (case dc__way_up => k_is)
    (case dk_way_up => k_is)
    (case da_sizes_of => k_is)
    (case dl_sizes_of => k_is)
    (case dc__sizes_of => k_is)
    (case dk_sizes_of => k_is)
    (case da_part_of => k_is)
    (case dl_part_of => k_is)
    (case dc__part_of => k_is)
    (case dk_part_of => k_is)
    (case da_common => k_is)
    (case dl_common => k_is)
    (case dc__common => k_is)
    (case dk_common => k_is)
    (case da_reduced => k_is)
    (case dl_reduced => k_is)
    (case dc__reduced => k_is)
    (case dk_reduced => k_is)
    (case da_race_of => k_is)
    (case dl_race_of => k_is)
    (case dc__race_of => k_is)
    (case dk_race_of => k_is)
    (case da_share_ahead => k_is)
    (case dl_share_ahead => k_is)
    (case dc__share_ahead => k_is)
    (case dk_share_ahead => k_is)
    (case da__law_well => k_is)
    (case dl__law_well => k_is)
    (case dc___law_well => k_is)
    (case dk__law_well => k_is)
    (case da__law_take => k_is)
    (case dl__law_take => k_is)
    (case dc___law_take => k_is)
    (case dk__law_take => k_is)
    (case da__law_bags => k_is)
    (case dl__law_bags => k_is)
    (case dc___law_bags => k_is)
    (case dk__law_bags => k_is)
    (case da__law_same => k_is)
    (case dl__law_same => k_is)
    (case dc___law_same => k_is)
    (case dk__law_same => k_is)
    (case da__law_field => k_is)
    (case dl__law_field => k_is)
    (case dc___law_field => k_is)
    (case dk__law_field => k_is)
    (case da__law_orders => k_is)
    (case dl__law_orders => k_is)
    (case dc___law_orders => k_is)
    (case dk__law_orders => k_is)
    (case da__law_reduced => k_is)
    (case dl__law_reduced => k_is)
    (case dc___law_reduced => k_is)
    (case dk__law_reduced => k_is)
    (case da__law_kind => k_is)
    (case dl__law_kind => k_is)
    (case dc___law_kind => k_is)
    (case dk__law_kind => k_is)
    (case da__law_tried => k_is)
    (case dl__law_tried => k_is)
    (case dc___law_tried => k_is)
    (case dk__law_tried => k_is)
    (case da_law => k_is)
    (case dl_law => k_is)
    (case dc__law => k_is)
    (case dk_law => k_is)
    (case lc => k_is)
    (case lp => rfl)
    (case tO => exact PySem.W.km_tabs_of Y _ (by simp))
    (case tN => kernel_rfl)
    (case tC => exact PySem.W.codeHd_of_K KX (by kernel_rfl))
    (case ea_CupError => k_is)
    (case ea_NoCup => k_is)
    (case ea_NoField => k_is)
    (case ea_NoNumber => k_is)
    (case ea_NoOrder => k_is)
    (case ea_NoPlayer => k_is)
    (case ea_NoRace => k_is)
    (case ea_NoText => k_is)
    (case ea_NotPeers => k_is)
    (case ea_NothingLeft => k_is)
    (case ea_TooMany => k_is)
    (case eb_NoField => k_exc)
    (case ec_NoField => k_is)
    (case ed_NoField => k_is)
    (case ee_NoField => k_is)
    (case eb_NoPlayer => k_exc)
    (case ec_NoPlayer => k_is)
    (case ed_NoPlayer => k_is)
    (case ee_NoPlayer => k_is)
    (case kc_NoPlayer => exact ⟨by k_is, by k_is, by k_is, by k_is, by k_is, by k_is, by k_is, by k_is⟩)
    (case kb_NoPlayer => kernel_rfl)
    (case kc_NoField => exact ⟨by k_is, by k_is, by k_is, by k_is, by k_is, by k_is, by k_is, by k_is⟩)
    (case kb_NoField => kernel_rfl)
    (case z_all => k_is)
    (case z_bool => k_is)
    (case z_enumerate => k_is)
    (case z_int => k_is)
    (case z_isinstance => k_is)
    (case z_len => k_is)
    (case z_list => k_is)
    (case z_max => k_is)
    (case z_range => k_is)
    (case z_str => k_is)
    (case z_tuple => k_is)
    (case z_zip => k_is)
    (case n_MOST_FIELD => k_is)
