import PyProof.Rows.All
import Wide.All
import OpenK.AllK
import Wide.FinOn
import PySem.Challenge.RW_treedeals_k48_whole_inward_numbers_count
import HandS.ForMost
import HandS.IsInst
import HandS.TupAny
import HandS.TupMul
import HandS.Conv
import HandS.SortInts
import HandS.Sort
import HandS.Zip
import HandS.Deep
import HandS.Wide
import HandS.DictComp
import HandS.Defaults
import KE.SortData
import KE.GoesEnum
import HandS.Iter
import KE.DatumOrd
import HandS.TupSets
import PyProof.SliceList
import PyProof.SliceSyntax
import KE.KDictKeyed
import HandS.WideBits
set_option Elab.async false
section
set_option Elab.async false
set_option linter.all false
set_option maxRecDepth 100000
set_option maxHeartbeats 4000000
/-! Values told as data; views of the heap; what an expression's reading evaluates to. -/
namespace Kx
open PySem PySem.Spec L2

/-! ### data that the program has made: all of it tracked -/
mutual
inductive Td (U : Hp) : V → PyData → Prop
  | non : Td U .non .none
  | bl (b : Bool) : Td U (.bl b) (.bool b)
  | int (i : Int) : Td U (.int i) (.int i)
  | str (x : Str) : Td U (.str x) (.str x)
  | lst {a : Addr} {vs : List V} {ds : List PyData} : U a = some (.lst vs) → TdAll U vs ds → Td U (.ref a) (.list ds)
  | tup {a : Addr} {vs : List V} {ds : List PyData} : U a = some (.tup vs) → TdAll U vs ds → Td U (.ref a) (.tuple ds)
inductive TdAll (U : Hp) : List V → List PyData → Prop
  | nil : TdAll U [] []
  | cons {v : V} {vs : List V} {d : PyData} {ds : List PyData} : Td U v d → TdAll U vs ds → TdAll U (v :: vs) (d :: ds)
end
section
variable {U U' H : Hp} {K : PySem.W.Frag}
mutual
theorem Td.mono (e : Same U U') : ∀ {v : V} {d : PyData}, Td U v d → Td U' v d
  | _, _, .non => .non
  | _, _, .bl b => .bl b
  | _, _, .int i => .int i
  | _, _, .str x => .str x
  | _, _, .lst h t => .lst (e _ _ h) (TdAll.mono e t)
  | _, _, .tup h t => .tup (e _ _ h) (TdAll.mono e t)
theorem TdAll.mono (e : Same U U') : ∀ {vs : List V} {ds : List PyData}, TdAll U vs ds → TdAll U' vs ds
  | _, _, .nil => .nil
  | _, _, .cons h t => .cons (Td.mono e h) (TdAll.mono e t)
end
mutual
theorem Td.dp (e : Same U H) : ∀ {v : V} {d : PyData}, Td U v d → Dp K H v d
  | _, _, .non => .non
  | _, _, .bl b => .bl b
  | _, _, .int i => .int i
  | _, _, .str x => .str x
  | _, _, .lst h t => .lst (SqL.of (e _ _ h)) (TdAll.dp e t)
  | _, _, .tup h t => .tup (SqT.of (e _ _ h)) (TdAll.dp e t)
theorem TdAll.dp (e : Same U H) : ∀ {vs : List V} {ds : List PyData}, TdAll U vs ds → DpAll K H vs ds
  | _, _, .nil => .nil
  | _, _, .cons h t => .cons (Td.dp e h) (TdAll.dp e t)
end
theorem Td.toInt {v : V} {i : Int} (h : Td U v (.int i)) : v = .int i := by cases h; rfl
theorem Td.toBl {v : V} {b : Bool} (h : Td U v (.bool b)) : v = .bl b := by cases h; rfl
theorem Td.toNon {v : V} (h : Td U v .none) : v = .non := by cases h; rfl
theorem Td.toLst {v : V} {ds : List PyData} (h : Td U v (.list ds)) : ∃ a vs, v = .ref a ∧ U a = some (.lst vs) ∧ TdAll U vs ds := by
  cases h with
  | lst h t => exact ⟨_, _, rfl, h, t⟩
theorem Td.toTup {v : V} {ds : List PyData} (h : Td U v (.tuple ds)) : ∃ a vs, v = .ref a ∧ U a = some (.tup vs) ∧ TdAll U vs ds := by
  cases h with
  | tup h t => exact ⟨_, _, rfl, h, t⟩
theorem TdAll.length : ∀ {vs : List V} {ds : List PyData}, TdAll U vs ds → vs.length = ds.length
  | _, _, .nil => rfl
  | _, _, .cons _ t => congrArg Nat.succ (TdAll.length t)
theorem TdAll.get : ∀ {vs : List V} {ds : List PyData} {i : Nat} {d : PyData}, TdAll U vs ds → ds[i]? = some d → ∃ v, vs[i]? = some v ∧ Td U v d
  | _, _, _, _, .nil, e => by simp at e
  | _, _, 0, _, .cons h _, e => by
    have q := Option.some.inj e
    subst q
    exact ⟨_, rfl, h⟩
  | _, _, i + 1, d, .cons _ t, e => by
    obtain ⟨v, h1, h2⟩ := TdAll.get (i := i) (d := d) t (by simpa using e)
    exact ⟨v, by simpa using h1, h2⟩
theorem TdAll.append : ∀ {vs ws : List V} {ds es : List PyData}, TdAll U vs ds → TdAll U ws es → TdAll U (vs ++ ws) (ds ++ es)
  | _, _, _, _, .nil, t => t
  | _, _, _, _, .cons h r, t => .cons h (TdAll.append r t)
theorem TdAll.take : ∀ {vs : List V} {ds : List PyData} (n : Nat), TdAll U vs ds → TdAll U (vs.take n) (ds.take n)
  | _, _, 0, _ => .nil
  | _, _, _ + 1, .nil => .nil
  | _, _, n + 1, .cons h t => .cons h (TdAll.take n t)
theorem TdAll.drop : ∀ {vs : List V} {ds : List PyData} (n : Nat), TdAll U vs ds → TdAll U (vs.drop n) (ds.drop n)
  | _, _, 0, t => t
  | _, _, _ + 1, .nil => .nil
  | _, _, n + 1, .cons _ t => TdAll.drop n t
theorem TdAll.set : ∀ {vs : List V} {ds : List PyData} {v : V} {d : PyData} (n : Nat), TdAll U vs ds → Td U v d → TdAll U (vs.set n v) (ds.set n d)
  | _, _, _, _, _, .nil, _ => .nil
  | _, _, _, _, 0, .cons _ t, h => .cons h t
  | _, _, _, _, n + 1, .cons q t, h => .cons q (TdAll.set n t h)
theorem TdAll.erase : ∀ {vs : List V} {ds : List PyData} (n : Nat), TdAll U vs ds → TdAll U (vs.eraseIdx n) (ds.eraseIdx n)
  | _, _, _, .nil => .nil
  | _, _, 0, .cons _ t => t
  | _, _, n + 1, .cons q t => .cons q (TdAll.erase n t)
theorem TdAll.one {v : V} {d : PyData} (h : Td U v d) : TdAll U [v] [d] := .cons h .nil
theorem TdAll.snoc {vs : List V} {ds : List PyData} {v : V} {d : PyData} (t : TdAll U vs ds) (h : Td U v d) : TdAll U (vs ++ [v]) (ds ++ [d]) := t.append (.one h)
theorem TdAll.init {vs : List V} {ds : List PyData} (t : TdAll U vs ds) : TdAll U vs.dropLast ds.dropLast := by
  rw [List.dropLast_eq_take, List.dropLast_eq_take, t.length]
  exact t.take _
theorem TdAll.ints : ∀ {vs : List V} {ns : List Int}, TdAll U vs (ns.map PyData.int) → vs = ns.map V.int
  | _, [], t => by cases t; rfl
  | _, n :: ns, t => by
    cases t with
    | cons h r =>
      cases h
      rw [TdAll.ints r]
      rfl
theorem TdAll.ofInts : ∀ (ns : List Int), TdAll U (ns.map V.int) (ns.map PyData.int)
  | [] => .nil
  | n :: ns => .cons (.int n) (TdAll.ofInts ns)
theorem TdAll.bls : ∀ {vs : List V} {bs : List Bool}, TdAll U vs (bs.map PyData.bool) → vs = bs.map V.bl
  | _, [], t => by cases t; rfl
  | _, n :: ns, t => by
    cases t with
    | cons h r =>
      cases h
      rw [TdAll.bls r]
      rfl
theorem TdAll.rep {vs : List V} {ds : List PyData} (t : TdAll U vs ds) : ∀ n, TdAll U (List.replicate n vs).flatten (List.replicate n ds).flatten
  | 0 => .nil
  | n + 1 => by
    rw [List.replicate_succ, List.replicate_succ, List.flatten_cons, List.flatten_cons]
    exact t.append (TdAll.rep t n)
end

/-! ### data with webs, addresses, tables -/
def pairD (p : Nat × Nat) : PyData := .tuple [.int p.1, .int p.2]
def intsD (r : List Int) : PyData := .tuple (r.map PyData.int)
def intsL (r : List Int) : PyData := .list (r.map PyData.int)
inductive DV where
  /-- data -/
  | d (x : PyData)
  /-- an object at p, nothing told of it -/
  | adr (p : Addr)
  /-- a web -/
  | web (n m : Nat) (ts : List (Nat × Nat))
  /-- a dict with these rows as keys -/
  | tab (rows : List (List Int))
  /-- a list of objects -/
  | adrs (ps : List Addr)
  /-- the script -/
  | scr (K : PySem.W.Frag) (ns : List Int)
abbrev iD (i : Int) : DV := .d (.int i)
abbrev bD (b : Bool) : DV := .d (.bool b)
abbrev nD : DV := .d .none
def webF (n m : Nat) (t : Addr) : List (Str × V) := [("things", .int n), ("clubs", .int m), ("ties", .ref t)]
/-- a dict's pairs: these rows, each with True -/
def tabE (rs : List (List Int)) : List (List L2.Key × V) := rs.map fun r => (r.map Sum.inl, V.bl true)
def Rp (C : Addr) (U : Hp) (v : V) : DV → Prop
  | .d x => Td U v x
  | .adr p => v = .ref p
  | .web n m ts => ∃ p dx t, v = .ref p ∧ U p = some (.ins C dx (webF n m t)) ∧ Td U (.ref t) (.tuple (ts.map pairD))
  | .tab rows => ∃ p rs, v = .ref p ∧ (∀ r : List Int, r ∈ rs ↔ r ∈ rows) ∧ U p = some (.dT (tabE rs))
  | .adrs ps => ∃ p, v = .ref p ∧ U p = some (.lst (ps.map V.ref))
  | .scr K ns => ∃ p, v = .ref p ∧ SqL K U p (ns.map V.int)
theorem sql_mono {K : PySem.W.Frag} {U U' : Hp} (e : Same U U') {a : Addr} {xs : List V} : SqL K U a xs → SqL K U' a xs
  | .inl (.inl h) => .inl (.inl (e _ _ h))
  | .inl (.inr ⟨o, h⟩) => .inl (.inr ⟨o, e _ _ h⟩)
  | .inr h => .inr h
theorem Rp.mono {C : Addr} {U U' : Hp} (e : Same U U') {v : V} : ∀ {d : DV}, Rp C U v d → Rp C U' v d
  | .d _, h => Td.mono e h
  | .adr _, h => h
  | .web _ _ _, ⟨p, dx, t, h1, h2, h3⟩ => ⟨p, dx, t, h1, e _ _ h2, h3.mono e⟩
  | .tab _, ⟨p, rs, h1, h3, h2⟩ => ⟨p, rs, h1, h3, e _ _ h2⟩
  | .adrs _, ⟨p, h1, h2⟩ => ⟨p, h1, e _ _ h2⟩
  | .scr _ _, ⟨p, h1, h2⟩ => ⟨p, h1, sql_mono e h2⟩

/-! ### views: U is what is told of H; what is private to the def stands in H alone -/
structure Gr (M : List Addr) (U H U' H' : Hp) : Prop where
  uu : Same U U'
  uh : Same U' H'
  hh : ∀ b o, H b = some o → b ∉ M → H' b = some o
  fr : ∀ b, H b ≠ none → U' b = U b
  st : ∀ b, H b ≠ none → H' b ≠ none
section
variable {M M' : List Addr} {U H U1 H1 U2 H2 : Hp} {p : Addr} {o : HO}
theorem Gr.refl (S : Same U H) : Gr M U H U H := ⟨.refl U, S, fun _ _ h _ => h, fun _ _ => rfl, fun _ h => h⟩
theorem Gr.trans (a : Gr M U H U1 H1) (b : Gr M U1 H1 U2 H2) : Gr M U H U2 H2 :=
  ⟨a.uu.trans b.uu, b.uh, fun c o h n => b.hh c o (a.hh c o h n) n, fun c h => (b.fr c (a.st c h)).trans (a.fr c h), fun c h => b.st c (a.st c h)⟩
theorem Gr.wide (a : Gr M U H U1 H1) (h : ∀ b ∈ M, b ∈ M') : Gr M' U H U1 H1 := ⟨a.uu, a.uh, fun c o q n => a.hh c o q fun z => n (h c z), a.fr, a.st⟩
theorem Gr.any (a : Gr [] U H U1 H1) : Gr M U H U1 H1 := a.wide fun _ h => absurd h (by simp)
theorem Gr.same (a : Gr [] U H U1 H1) : Same H H1 := fun c o h => a.hh c o h (by simp)
theorem same_upd {H : Hp} {p : Addr} {o : HO} (h : H p = none) : Same H (upd H p o) := fun b x e => by
  rw [upd_ne (ne_of_none e h)]
  exact e
theorem up_none (S : Same U H) (h : H p = none) : U p = none := S.free h
theorem ne_none {H : Hp} {p : Addr} {o : HO} (h : H p = some o) : H p ≠ none := by rw [h]; exact fun z => by cases z
/-- a new object, told -/
theorem Gr.new (S : Same U H) (h : H p = none) : Gr M U H (upd U p o) (upd H p o) := by
  refine ⟨same_upd (up_none S h), fun b x e => ?_, fun b x e _ => same_upd h b x e, fun b e => ?_, fun b e => ?_⟩
  · by_cases hb : b = p
    · subst hb; rw [upd_same] at e ⊢; exact e
    · rw [upd_ne hb] at e ⊢; exact S b x e
  · by_cases hb : b = p
    · subst hb; exact absurd h e
    · rw [upd_ne hb]
  · by_cases hb : b = p
    · subst hb; rw [upd_same]; exact fun z => by cases z
    · rw [upd_ne hb]; exact e
/-- a new object, kept private -/
theorem Gr.priv (S : Same U H) (h : H p = none) : Gr M U H U (upd H p o) := by
  refine ⟨.refl U, S.trans (same_upd h), fun b x e _ => same_upd h b x e, fun _ _ => rfl, fun b e => ?_⟩
  by_cases hb : b = p
  · subst hb; rw [upd_same]; exact fun z => by cases z
  · rw [upd_ne hb]; exact e
/-- a private object changes -/
theorem Gr.mut (S : Same U H) (hp : U p = none) (hm : p ∈ M) : Gr M U H U (upd H p o) := by
  refine ⟨.refl U, fun b x e => ?_, fun b x e n => ?_, fun _ _ => rfl, fun b e => ?_⟩
  · rw [upd_ne (ne_of_none e hp)]; exact S b x e
  · rw [upd_ne (fun z => n (by rw [z]; exact hm))]; exact e
  · by_cases hb : b = p
    · subst hb; rw [upd_same]; exact fun z => by cases z
    · rw [upd_ne hb]; exact e
/-- what was private is told from now on -/
theorem Gr.tell (S : Same U H) (a : Gr M U H U1 H1) (h : H p = none) (h1 : H1 p = some o) (hu : U1 p = none) : Gr M U H (upd U1 p o) H1 := by
  refine ⟨fun b x e => ?_, fun b x e => ?_, a.hh, fun b e => ?_, a.st⟩
  · rw [upd_ne (ne_of_none e (up_none S h))]; exact a.uu b x e
  · by_cases hb : b = p
    · subst hb; rw [upd_same] at e; rw [← e]; exact h1
    · rw [upd_ne hb] at e; exact a.uh b x e
  · by_cases hb : b = p
    · subst hb; exact absurd h e
    · rw [upd_ne hb]; exact a.fr b e
/-- what did not stand at the entry need not be told of -/
theorem Gr.drop (a : Gr M U H U1 H1) (h : ∀ b ∈ M, H b = none) : Gr [] U H U1 H1 := ⟨a.uu, a.uh, fun c o q _ => a.hh c o q fun z => ne_none q (h c z), a.fr, a.st⟩
/-- a view grown is a view -/
theorem Gr.under (a : Gr M U H U1 H1) : Same U H1 := a.uu.trans a.uh
theorem Gr.none_u (a : Gr M U H U1 H1) (h : H p ≠ none) (hu : U p = none) : U1 p = none := (a.fr p h).trans hu
end

/-! ### slots -/
abbrev Ro := List (Option DV)
structure Lo (C : Addr) (U : Hp) (σ : L2.St) (ρ : Ro) : Prop where
  len : σ.length = ρ.length
  get : ∀ (i : Nat) (d : DV), ρ[i]? = some (some d) → ∃ v, σ[i]? = some (some v) ∧ Rp C U v d
section
variable {C : Addr} {U U' H : Hp} {σ : L2.St} {ρ ρ' : Ro}
theorem Lo.mono (L : Lo C U σ ρ) (e : Same U U') : Lo C U' σ ρ := ⟨L.len, fun i d h => let ⟨v, a, b⟩ := L.get i d h; ⟨v, a, b.mono e⟩⟩
theorem Lo.set (L : Lo C U σ ρ) {i : Nat} {v : V} {d : DV} (h : Rp C U v d) : Lo C U (σ.set i (some v)) (ρ.set i (some d)) := by
  refine ⟨by rw [List.length_set, List.length_set]; exact L.len, fun j e q => ?_⟩
  by_cases hj : i = j
  · subst hj
    have hl : i < ρ.length := by
      have := (List.getElem?_eq_some_iff.mp q).1
      rwa [List.length_set] at this
    rw [List.getElem?_set_self hl] at q
    have q' := Option.some.inj (Option.some.inj q)
    subst q'
    exact ⟨v, List.getElem?_set_self (by rw [L.len]; exact hl), h⟩
  · rw [List.getElem?_set_ne hj] at q
    obtain ⟨w, a, b⟩ := L.get j e q
    exact ⟨w, by rw [List.getElem?_set_ne hj]; exact a, b⟩
theorem Lo.put (L : Lo C U σ ρ) {i : Nat} {v : V} : Lo C U (σ.set i (some v)) (ρ.set i none) := by
  refine ⟨by rw [List.length_set, List.length_set]; exact L.len, fun j e q => ?_⟩
  by_cases hj : i = j
  · subst hj
    have hl : i < ρ.length := by
      have := (List.getElem?_eq_some_iff.mp q).1
      rwa [List.length_set] at this
    rw [List.getElem?_set_self hl] at q
    cases q
  · rw [List.getElem?_set_ne hj] at q
    obtain ⟨w, a, b⟩ := L.get j e q
    exact ⟨w, by rw [List.getElem?_set_ne hj]; exact a, b⟩
/-- forgetting -/
inductive Sub : Ro → Ro → Prop
  | nil : Sub [] []
  | no {x : Option DV} {a b : Ro} : Sub a b → Sub (none :: a) (x :: b)
  | eq {x : Option DV} {a b : Ro} : Sub a b → Sub (x :: a) (x :: b)
theorem Sub.len : ∀ {a b : Ro}, Sub a b → a.length = b.length
  | _, _, .nil => rfl
  | _, _, .no t => congrArg Nat.succ (Sub.len t)
  | _, _, .eq t => congrArg Nat.succ (Sub.len t)
theorem Sub.get : ∀ {a b : Ro} {i : Nat} {d : DV}, Sub a b → a[i]? = some (some d) → b[i]? = some (some d)
  | _, _, _, _, .nil, h => by simp at h
  | _, _, 0, _, .no _, h => by cases h
  | _, _, i + 1, d, .no t, h => Sub.get (i := i) (d := d) t (by simpa using h)
  | _, _, 0, _, .eq _, h => h
  | _, _, i + 1, d, .eq t, h => Sub.get (i := i) (d := d) t (by simpa using h)
theorem Sub.refl : ∀ a : Ro, Sub a a
  | [] => .nil
  | _ :: a => .eq (Sub.refl a)
theorem Lo.sub (L : Lo C U σ ρ) (s : Sub ρ' ρ) : Lo C U σ ρ' := ⟨L.len.trans s.len.symm, fun i d h => L.get i d (s.get h)⟩
/-- the slots of a block's own names forgotten -/
def wipeR (ρ : Ro) : List Nat → Ro
  | [] => ρ
  | v :: vs => (wipeR ρ vs).set v none
theorem Lo.wipe (L : Lo C U σ ρ) : ∀ vs : List Nat, Lo C U (wipe σ vs) (wipeR ρ vs)
  | [] => L
  | v :: vs => by
    have L1 := Lo.wipe L vs
    unfold L2.wipe wipeR
    refine ⟨by rw [List.length_set, List.length_set]; exact L1.len, fun j e q => ?_⟩
    by_cases hj : v = j
    · subst hj
      have hl : v < (wipeR ρ vs).length := by
        have := (List.getElem?_eq_some_iff.mp q).1
        rwa [List.length_set] at this
      rw [List.getElem?_set_self hl] at q
      cases q
    · rw [List.getElem?_set_ne hj] at q
      obtain ⟨w, a, b⟩ := L1.get j e q
      exact ⟨w, by rw [List.getElem?_set_ne hj]; exact a, b⟩
end
abbrev RpAll (C : Addr) (U : Hp) : List V → List DV → Prop := Paired (Rp C U)
theorem RpAll.mono {C : Addr} {U U' : Hp} (e : Same U U') : ∀ {vs : List V} {ds : List DV}, RpAll C U vs ds → RpAll C U' vs ds
  | _, _, .nil => .nil
  | _, _, .cons h t => .cons (h.mono e) (RpAll.mono e t)
theorem RpAll.td {C : Addr} {U : Hp} : ∀ {vs : List V} {ds : List PyData}, RpAll C U vs (ds.map DV.d) → TdAll U vs ds
  | _, [], h => by cases h; exact .nil
  | _, d :: ds, h => by
    cases h with
    | cons a t => exact .cons a (RpAll.td t)
theorem RpAll.of {C : Addr} {U : Hp} : ∀ {vs : List V} {ds : List PyData}, TdAll U vs ds → RpAll C U vs (ds.map DV.d)
  | _, _, .nil => .nil
  | _, _, .cons h t => .cons h (RpAll.of t)
theorem loc_start {C : Addr} {U : Hp} {N : List Str} {vs : List V} {ds : List DV} (h : RpAll C U vs ds) (hl : vs.length ≤ N.length) : Lo C U (L2.start N vs) (ds.map some ++ List.replicate (N.length - ds.length) none) := by
  have el : vs.length = ds.length := Paired.length h
  refine ⟨by unfold L2.start; simp [el], fun i d q => ?_⟩
  by_cases hi : i < ds.length
  · rw [List.getElem?_append_left (by simpa using hi), List.getElem?_map] at q
    have q2 : ds[i]? = some d := by
      cases e : ds[i]? with
      | none => rw [e] at q; cases q
      | some x =>
        rw [e] at q
        have q' := Option.some.inj (Option.some.inj q)
        rw [q']
    have key : ∀ {vs : List V} {ds : List DV} {i : Nat}, RpAll C U vs ds → ds[i]? = some d → ∃ v, vs[i]? = some v ∧ Rp C U v d := by
      intro vs ds i h
      induction h generalizing i with
      | nil => intro z; simp at z
      | cons a t ih =>
        intro z
        cases i with
        | zero =>
          have z' := Option.some.inj z
          rw [← z']
          exact ⟨_, rfl, a⟩
        | succ i =>
          obtain ⟨v, h1, h2⟩ := ih (i := i) (by simpa using z)
          exact ⟨v, by simpa using h1, h2⟩
    obtain ⟨v, h1, h2⟩ := key h q2
    refine ⟨v, ?_, h2⟩
    unfold L2.start
    rw [List.getElem?_append_left (by simpa [el] using hi), List.getElem?_map, h1]
    rfl
  · rw [List.getElem?_append_right (by simpa using hi), List.getElem?_replicate] at q
    split at q <;> cases q

/-! ### evaluations -/
def Ev (C : Addr) (te : TE) (ρ : Ro) (d : DV) : Prop := ∀ (σ : L2.St) (U H : Hp), Lo C U σ ρ → Same U H → ∀ Q : VK, (∀ v U' H', Gr [] U H U' H' → Rp C U' v d → Q v H') → te σ H Q
/-- .. to some data of which P holds -/
def EvP (C : Addr) (te : TE) (ρ : Ro) (P : DV → Prop) : Prop := ∀ (σ : L2.St) (U H : Hp), Lo C U σ ρ → Same U H → ∀ Q : VK, (∀ v d U' H', Gr [] U H U' H' → Rp C U' v d → P d → Q v H') → te σ H Q
/-- .. to a new list, not told yet -/
def EvN (C : Addr) (te : TE) (ρ : Ro) (ds : List PyData) : Prop := ∀ (σ : L2.St) (U H : Hp), Lo C U σ ρ → Same U H → ∀ Q : VK, (∀ p vs U' H', Gr [] U H U' H' → H p = none → U' p = none → H' p = some (.lst vs) → TdAll U' vs ds → Q (.ref p) H') → te σ H Q
def EvT (C : Addr) (tt : TT) (ρ : Ro) (b : Bool) : Prop := ∀ (σ : L2.St) (U H : Hp), Lo C U σ ρ → Same U H → ∀ Q : Bool → Hp → Prop, (∀ U' H', Gr [] U H U' H' → Q b H') → tt σ H Q
def EvA (C : Addr) (ta : TA) (ρ : Ro) (ds : List DV) : Prop := ∀ (σ : L2.St) (U H : Hp), Lo C U σ ρ → Same U H → ∀ Q : List V → Hp → Prop, (∀ vs U' H', Gr [] U H U' H' → RpAll C U' vs ds → Q vs H') → ta σ H Q
/-- operations on values -/
def RV (C : Addr) (r : R2) (a b d : DV) : Prop := ∀ (U H : Hp) (x y : V), Same U H → Rp C U x a → Rp C U y b → ∀ Q : VK, (∀ v U' H', Gr [] U H U' H' → Rp C U' v d → Q v H') → r x y H Q
def RU (C : Addr) (r : V → Hp → VK → Prop) (a d : DV) : Prop := ∀ (U H : Hp) (x : V), Same U H → Rp C U x a → ∀ Q : VK, (∀ v U' H', Gr [] U H U' H' → Rp C U' v d → Q v H') → r x H Q
def RC (C : Addr) (r : List V → Hp → VK → Prop) (as : List DV) (d : DV) : Prop := ∀ (U H : Hp) (xs : List V), Same U H → RpAll C U xs as → ∀ Q : VK, (∀ v U' H', Gr [] U H U' H' → Rp C U' v d → Q v H') → r xs H Q
section
variable {C : Addr} {K : PySem.W.Frag} {ρ : Ro} {te ta tb : TE} {tt tu : TT} {r : R2} {a b d e : DV} {x y : V} {i j k : Int}
theorem Ev.p {P : DV → Prop} (h : Ev C te ρ d) (hp : P d) : EvP C te ρ P := fun σ U H L S Q q => h σ U H L S Q fun v U1 H1 g1 r1 => q v d U1 H1 g1 r1 hp
theorem EvP.det (h : EvP C te ρ (· = d)) : Ev C te ρ d := fun σ U H L S Q q => h σ U H L S Q fun v d' U1 H1 g1 r1 e => q v U1 H1 g1 (e ▸ r1)
theorem Ev.to (h : Ev C te ρ d) (e : d = b) : Ev C te ρ b := e ▸ h
theorem EvT.to {p q : Bool} (h : EvT C tt ρ p) (e : p = q) : EvT C tt ρ q := e ▸ h
theorem EvN.to {xs ys : List PyData} (h : EvN C te ρ xs) (e : xs = ys) : EvN C te ρ ys := e ▸ h
theorem EvN.ev {ds : List PyData} (h : EvN C te ρ ds) : Ev C te ρ (.d (.list ds)) := fun σ U H L S Q q =>
  h σ U H L S Q fun p vs U1 H1 g1 hp hu h1 t => q _ (upd U1 p (.lst vs)) H1 (g1.tell S hp h1 hu) (Td.lst upd_same (t.mono (same_upd hu)))
theorem ev_var {i : Nat} (h : ρ[i]? = some (some d)) : Ev C (tVar i) ρ d := fun σ U H L S Q q =>
  let ⟨v, a, b⟩ := L.get i d h
  ⟨v, a, q v U H (.refl S) b⟩
theorem ev_int : Ev C (tC (.int i)) ρ (iD i) := fun σ U H L S Q q => q _ U H (.refl S) (.int i)
theorem ev_bl {b : Bool} : Ev C (tC (.bl b)) ρ (bD b) := fun σ U H L S Q q => q _ U H (.refl S) (.bl b)
theorem ev_non : Ev C (tC .non) ρ nD := fun σ U H L S Q q => q _ U H (.refl S) .non
theorem ev_op (ha : Ev C ta ρ a) (hb : Ev C tb ρ b) (hr : RV C r a b d) : Ev C (tOp r ta tb) ρ d := fun σ U H L S Q q =>
  ha σ U H L S _ fun v U1 H1 g1 r1 => hb σ U1 H1 (L.mono g1.uu) g1.uh _ fun w U2 H2 g2 r2 => hr U2 H2 v w g2.uh (r1.mono g2.uu) r2 Q fun z U3 H3 g3 r3 => q z U3 H3 ((g1.trans g2).trans g3) r3
theorem ev_un {r : V → Hp → VK → Prop} (ha : Ev C ta ρ a) (hr : RU C r a d) : Ev C (tUn r ta) ρ d := fun σ U H L S Q q =>
  ha σ U H L S _ fun v U1 H1 g1 r1 => hr U1 H1 v g1.uh r1 Q fun z U3 H3 g3 r3 => q z U3 H3 (g1.trans g3) r3
theorem eva_nil : EvA C tNil ρ [] := fun σ U H L S Q q => q [] U H (.refl S) .nil
theorem eva_cons {tr : TA} {ds : List DV} (ha : Ev C ta ρ a) (hr : EvA C tr ρ ds) : EvA C (tCons ta tr) ρ (a :: ds) := fun σ U H L S Q q =>
  ha σ U H L S _ fun v U1 H1 g1 r1 => hr σ U1 H1 (L.mono g1.uu) g1.uh _ fun ws U2 H2 g2 r2 => q (v :: ws) U2 H2 (g1.trans g2) (.cons (r1.mono g2.uu) r2)
theorem ev_tup {t : TA} {ds : List PyData} (h : EvA C t ρ (ds.map DV.d)) (hl : ds.length ≤ 100000) : Ev C (tTup t) ρ (.d (.tuple ds)) := fun σ U H L S Q q =>
  h σ U H L S _ fun vs U1 H1 g1 r1 => ⟨Nat.le_trans (by rw [r1.td.length]; exact hl) (by decide), fun p hp =>
    q _ _ _ (g1.trans (Gr.new g1.uh hp)) (Td.tup upd_same (r1.td.mono (same_upd (up_none g1.uh hp))))⟩
theorem evn_lst {t : TA} {ds : List PyData} (h : EvA C t ρ (ds.map DV.d)) (hl : ds.length ≤ 100000) : EvN C (tLst t) ρ ds := fun σ U H L S Q q =>
  h σ U H L S _ fun vs U1 H1 g1 r1 => ⟨Nat.le_trans (by rw [r1.td.length]; exact hl) (by decide), fun p hp =>
    q p vs U1 _ (g1.trans (Gr.priv g1.uh hp)) (g1.same.free hp) (up_none g1.uh hp) upd_same r1.td⟩
theorem ev_call {rc : List V → Hp → VK → Prop} {t : TA} {ds : List DV} (h : EvA C t ρ ds) (hr : RC C rc ds d) : Ev C (tCB rc t) ρ d := fun σ U H L S Q q =>
  h σ U H L S _ fun vs U1 H1 g1 r1 => hr U1 H1 vs g1.uh r1 Q fun z U3 H3 g3 r3 => q z U3 H3 (g1.trans g3) r3

/-! ints -/
theorem rv_I0 {g : Int → Int → V} (h : g i j = .int k) : RV C (rI0 g) (iD i) (iD j) (iD k) := fun U H x y S rx ry Q q => by
  cases Td.toInt rx; cases Td.toInt ry
  exact ⟨i, j, rfl, rfl, by rw [h]; exact q _ U H (.refl S) (.int k)⟩
theorem rv_B0 {g : Int → Int → V} {b : Bool} (h : g i j = .bl b) : RV C (rI0 g) (iD i) (iD j) (bD b) := fun U H x y S rx ry Q q => by
  cases Td.toInt rx; cases Td.toInt ry
  exact ⟨i, j, rfl, rfl, by rw [h]; exact q _ U H (.refl S) (.bl b)⟩
theorem rv_I {P : Int → Int → Prop} {g : Int → Int → V} (hc : P i j) (h : g i j = .int k) : RV C (rI P g) (iD i) (iD j) (iD k) := fun U H x y S rx ry Q q => by
  cases Td.toInt rx; cases Td.toInt ry
  exact ⟨i, j, rfl, rfl, hc, by rw [h]; exact q _ U H (.refl S) (.int k)⟩
theorem rv_eqI {b : Bool} (h : decide (i = j) = b) : RV C rEq (iD i) (iD j) (bD b) := fun U H x y S rx ry Q q => by
  cases Td.toInt rx; cases Td.toInt ry
  refine ⟨rfl, ?_⟩
  have e : decide (V.int i = V.int j) = b := by rw [← h]; simp
  rw [e]
  exact q _ U H (.refl S) (.bl b)
theorem rv_neI {b : Bool} (h : (!decide (i = j)) = b) : RV C rNe (iD i) (iD j) (bD b) := fun U H x y S rx ry Q q => by
  cases Td.toInt rx; cases Td.toInt ry
  refine ⟨rfl, ?_⟩
  have e : (!decide (V.int i = V.int j)) = b := by rw [← h]; simp
  rw [e]
  exact q _ U H (.refl S) (.bl b)

/-! tests -/
theorem evt_test {b : Bool} (h : Ev C te ρ (bD b)) : EvT C (tTest te) ρ b := fun σ U H L S Q q => h σ U H L S _ fun v U1 H1 g1 r1 => ⟨b, Td.toBl r1, q U1 H1 g1⟩
theorem evt_B {b : Bool} (h : Ev C te ρ (bD b)) : EvT C (tB te) ρ b := fun σ U H L S Q q => h σ U H L S _ fun v U1 H1 g1 r1 => ⟨b, Td.toBl r1, q U1 H1 g1⟩
theorem evt_and {p q : Bool} (h1 : EvT C tt ρ p) (h2 : p = true → EvT C tu ρ q) : EvT C (tAnd tt tu) ρ (p && q) := fun σ U H L S Q k => h1 σ U H L S _ fun U1 H1 g1 => by
  cases p with
  | true => exact iteT (h2 rfl σ U1 H1 (L.mono g1.uu) g1.uh Q fun U2 H2 g2 => k U2 H2 (g1.trans g2))
  | false => exact iteF (k U1 H1 g1)
theorem evt_or {p q : Bool} (h1 : EvT C tt ρ p) (h2 : p = false → EvT C tu ρ q) : EvT C (tOr tt tu) ρ (p || q) := fun σ U H L S Q k => h1 σ U H L S _ fun U1 H1 g1 => by
  cases p with
  | true => exact iteT (k U1 H1 g1)
  | false => exact iteF (h2 rfl σ U1 H1 (L.mono g1.uu) g1.uh Q fun U2 H2 g2 => k U2 H2 (g1.trans g2))
theorem evt_not {p : Bool} (h1 : EvT C tt ρ p) : EvT C (tNot tt) ρ (!p) := fun σ U H L S Q k => h1 σ U H L S _ fun U1 H1 g1 => k U1 H1 g1
theorem evt_yes : EvT C tYes ρ true := fun σ U H L S Q k => k U H (.refl S)
theorem ev_andV {p : Bool} {d : DV} (h1 : Ev C ta ρ (bD p)) (h2 : p = true → Ev C tb ρ d) (h3 : p = false → d = bD false) : Ev C (tAndV ta tb) ρ d := fun σ U H L S Q k => h1 σ U H L S _ fun v U1 H1 g1 r1 => ⟨p, Td.toBl r1, by
  cases p with
  | true => exact iteT (h2 rfl σ U1 H1 (L.mono g1.uu) g1.uh Q fun w U2 H2 g2 r2 => k w U2 H2 (g1.trans g2) r2)
  | false =>
    have e := h3 rfl
    subst e
    exact iteF (k _ U1 H1 g1 (.bl false))⟩
theorem ev_orV {p : Bool} {d : DV} (h1 : Ev C ta ρ (bD p)) (h2 : p = false → Ev C tb ρ d) (h3 : p = true → d = bD true) : Ev C (tOrV ta tb) ρ d := fun σ U H L S Q k => h1 σ U H L S _ fun v U1 H1 g1 r1 => ⟨p, Td.toBl r1, by
  cases p with
  | false => exact iteF (h2 rfl σ U1 H1 (L.mono g1.uu) g1.uh Q fun w U2 H2 g2 r2 => k w U2 H2 (g1.trans g2) r2)
  | true =>
    have e := h3 rfl
    subst e
    exact iteT (k _ U1 H1 g1 (.bl true))⟩
theorem ev_notV {p : Bool} (h1 : Ev C ta ρ (bD p)) : Ev C (tNotV ta) ρ (bD (!p)) := fun σ U H L S Q k => h1 σ U H L S _ fun v U1 H1 g1 r1 => ⟨p, Td.toBl r1, k _ U1 H1 g1 (.bl _)⟩
theorem ev_if {p : Bool} (h : EvT C tt ρ p) (h1 : p = true → Ev C ta ρ d) (h2 : p = false → Ev C tb ρ d) : Ev C (tIf tt ta tb) ρ d := fun σ U H L S Q k => h σ U H L S _ fun U1 H1 g1 => by
  cases p with
  | true => exact iteT (h1 rfl σ U1 H1 (L.mono g1.uu) g1.uh Q fun w U2 H2 g2 r2 => k w U2 H2 (g1.trans g2) r2)
  | false => exact iteF (h2 rfl σ U1 H1 (L.mono g1.uu) g1.uh Q fun w U2 H2 g2 r2 => k w U2 H2 (g1.trans g2) r2)
theorem ev_isN {p : Bool} (h : Ev C ta ρ d) (h0 : d = nD → p = true) (h1 : d ≠ nD → p = false) : Ev C (tIsN ta) ρ (bD p) := fun σ U H L S Q k => h σ U H L S _ fun v U1 H1 g1 r1 => by
  have e : decide (v = .non) = p := by
    cases d with
    | d x =>
      cases x with
      | none => rw [Td.toNon r1, h0 rfl]; rfl
      | bool b => rw [Td.toBl r1, h1 (by intro z; cases z)]; rfl
      | int b => rw [Td.toInt r1, h1 (by intro z; cases z)]; rfl
      | str b => cases (show Td U1 v (.str b) from r1); rw [h1 (by intro z; cases z)]; rfl
      | list b => obtain ⟨_, _, e, _⟩ := Td.toLst r1; rw [e, h1 (by intro z; cases z)]; rfl
      | tuple b => obtain ⟨_, _, e, _⟩ := Td.toTup r1; rw [e, h1 (by intro z; cases z)]; rfl
      | dict b => cases (show Td U1 v (.dict b) from r1)
    | adr p => rw [show v = .ref p from r1, h1 (by intro z; cases z)]; rfl
    | web n m ts => obtain ⟨_, _, _, e, _⟩ := r1; rw [e, h1 (by intro z; cases z)]; rfl
    | tab rows => obtain ⟨_, _, e, _⟩ := r1; rw [e, h1 (by intro z; cases z)]; rfl
    | adrs ps => obtain ⟨_, e, _⟩ := r1; rw [e, h1 (by intro z; cases z)]; rfl
    | scr k ps => obtain ⟨_, e, _⟩ := r1; rw [e, h1 (by intro z; cases z)]; rfl
  rw [e]
  exact k _ U1 H1 g1 (.bl p)
theorem ev_notN {p : Bool} (h : Ev C ta ρ d) (h0 : d = nD → p = false) (h1 : d ≠ nD → p = true) : Ev C (tNotN ta) ρ (bD p) := fun σ U H L S Q k => h σ U H L S _ fun v U1 H1 g1 r1 => by
  have e : (!decide (v = .non)) = p := by
    cases d with
    | d x =>
      cases x with
      | none => rw [Td.toNon r1, h0 rfl]; rfl
      | bool b => rw [Td.toBl r1, h1 (by intro z; cases z)]; rfl
      | int b => rw [Td.toInt r1, h1 (by intro z; cases z)]; rfl
      | str b => cases (show Td U1 v (.str b) from r1); rw [h1 (by intro z; cases z)]; rfl
      | list b => obtain ⟨_, _, e, _⟩ := Td.toLst r1; rw [e, h1 (by intro z; cases z)]; rfl
      | tuple b => obtain ⟨_, _, e, _⟩ := Td.toTup r1; rw [e, h1 (by intro z; cases z)]; rfl
      | dict b => cases (show Td U1 v (.dict b) from r1)
    | adr p => rw [show v = .ref p from r1, h1 (by intro z; cases z)]; rfl
    | web n m ts => obtain ⟨_, _, _, e, _⟩ := r1; rw [e, h1 (by intro z; cases z)]; rfl
    | tab rows => obtain ⟨_, _, e, _⟩ := r1; rw [e, h1 (by intro z; cases z)]; rfl
    | adrs ps => obtain ⟨_, e, _⟩ := r1; rw [e, h1 (by intro z; cases z)]; rfl
    | scr k ps => obtain ⟨_, e, _⟩ := r1; rw [e, h1 (by intro z; cases z)]; rfl
  rw [e]
  exact k _ U1 H1 g1 (.bl p)
end
end Kx
end
section
set_option Elab.async false
set_option linter.all false
set_option maxRecDepth 100000
set_option maxHeartbeats 4000000
/-! More evaluations: sequences, comprehensions, calls, fields; statements. -/
namespace Kx
open PySem PySem.Spec L2

section
variable {C : Addr} {K : PySem.W.Frag} {ρ : Ro} {te ta tb : TE} {tt tu : TT} {r : R2} {a b d : DV} {x y : V} {i j k : Int} {ds es : List PyData} {c : PyData}
theorem szle {n : Nat} (h : n ≤ 100000) : n ≤ sizeLine := Nat.le_trans h (by decide)
theorem szlt {n : Nat} (h : n < 100000) : n < sizeLine := Nat.lt_of_lt_of_le h (by decide)

/-! ### items, lengths -/
theorem ixN_lt {n : Nat} {i : Int} {j : Nat} (h : ixN n i = some j) : j < n := by
  unfold ixN at h
  split at h
  · split at h
    · cases h; omega
    · cases h
  · split at h
    · cases h; omega
    · cases h
theorem atI_get {α β : Type} {xs : List α} {ys : List β} {i : Int} {y : β} (hl : xs.length = ys.length) (h : atI ys i = some y) : ∃ j, ixN ys.length i = some j ∧ ys[j]? = some y ∧ ∀ x, xs[j]? = some x → atI xs i = some x := by
  unfold atI at h
  cases e : ixN ys.length i with
  | none => rw [e] at h; cases h
  | some j =>
    rw [e] at h
    exact ⟨j, rfl, h, fun x hx => by unfold atI; rw [hl, e]; exact hx⟩
theorem rv_ixL (h : atI ds i = some c) : RV C (rIxL K) (.d (.list ds)) (iD i) (.d c) := fun U H x y S rx ry Q q => by
  obtain ⟨p, vs, rfl, hp, t⟩ := Td.toLst rx
  cases Td.toInt ry
  obtain ⟨j, _, h2, h3⟩ := atI_get t.length h
  obtain ⟨v, h4, h5⟩ := t.get h2
  exact ⟨p, vs, i, v, rfl, rfl, SqL.of (S _ _ hp), h3 v h4, q v U H (.refl S) h5⟩
theorem rv_ixT (h : atI ds i = some c) : RV C (rIxT K) (.d (.tuple ds)) (iD i) (.d c) := fun U H x y S rx ry Q q => by
  obtain ⟨p, vs, rfl, hp, t⟩ := Td.toTup rx
  cases Td.toInt ry
  obtain ⟨j, _, h2, h3⟩ := atI_get t.length h
  obtain ⟨v, h4, h5⟩ := t.get h2
  exact ⟨p, vs, i, v, rfl, rfl, SqT.of (S _ _ hp), h3 v h4, q v U H (.refl S) h5⟩
theorem rc_lenL : RC C (fun xs H Q => ∃ p ys, xs = [V.ref p] ∧ (SqL K H p ys ∨ SqT K H p ys) ∧ Q (.int ys.length) H) [.d (.list ds)] (iD ds.length) := fun U H xs S rx Q q => by
  cases rx with
  | cons h t =>
    cases t
    obtain ⟨p, vs, rfl, hp, t⟩ := Td.toLst h
    exact ⟨p, vs, rfl, .inl (SqL.of (S _ _ hp)), q _ U H (.refl S) (by rw [t.length]; exact .int _)⟩
theorem rc_lenT : RC C (fun xs H Q => ∃ p ys, xs = [V.ref p] ∧ (SqL K H p ys ∨ SqT K H p ys) ∧ Q (.int ys.length) H) [.d (.tuple ds)] (iD ds.length) := fun U H xs S rx Q q => by
  cases rx with
  | cons h t =>
    cases t
    obtain ⟨p, vs, rfl, hp, t⟩ := Td.toTup h
    exact ⟨p, vs, rfl, .inr (SqT.of (S _ _ hp)), q _ U H (.refl S) (by rw [t.length]; exact .int _)⟩
/-! ### list(..), tuple(..) -/
theorem evn_list {t : TA} (h : EvA C t ρ [a]) (ha : a = .d (.list ds) ∨ a = .d (.tuple ds)) : EvN C (tCB (fun xs H Q => ∃ p ys, xs = [V.ref p] ∧ (SqL K H p ys ∨ SqT K H p ys) ∧ ∀ l, H l = none → Q (.ref l) (upd H l (.lst ys))) t) ρ ds := fun σ U H L S Q q =>
  h σ U H L S _ fun vs U1 H1 g1 r1 => by
    cases r1 with
    | cons h t =>
      cases t
      rcases ha with rfl | rfl
      · obtain ⟨p, vs, rfl, hp, t⟩ := Td.toLst h
        exact ⟨p, vs, rfl, .inl (SqL.of (g1.uh _ _ hp)), fun l hl => q l vs U1 _ (g1.trans (Gr.priv g1.uh hl)) (g1.same.free hl) (up_none g1.uh hl) upd_same t⟩
      · obtain ⟨p, vs, rfl, hp, t⟩ := Td.toTup h
        exact ⟨p, vs, rfl, .inr (SqT.of (g1.uh _ _ hp)), fun l hl => q l vs U1 _ (g1.trans (Gr.priv g1.uh hl)) (g1.same.free hl) (up_none g1.uh hl) upd_same t⟩
theorem ev_tuple {t : TA} (h : EvA C t ρ [a]) (ha : a = .d (.list ds) ∨ a = .d (.tuple ds)) :
    Ev C (tCB (fun xs H Q => ∃ p ys, xs = [V.ref p] ∧ ((SqL K H p ys ∧ ∀ l, H l = none → Q (.ref l) (upd H l (.tup ys))) ∨ (SqT K H p ys ∧ Q (.ref p) H))) t) ρ (.d (.tuple ds)) := fun σ U H L S Q q =>
  h σ U H L S _ fun vs U1 H1 g1 r1 => by
    cases r1 with
    | cons h t =>
      cases t
      rcases ha with rfl | rfl
      · obtain ⟨p, vs, rfl, hp, t⟩ := Td.toLst h
        exact ⟨p, vs, rfl, .inl ⟨SqL.of (g1.uh _ _ hp), fun l hl => q _ _ _ (g1.trans (Gr.new g1.uh hl)) (Td.tup upd_same (t.mono (same_upd (up_none g1.uh hl))))⟩⟩
      · obtain ⟨p, vs, rfl, hp, t⟩ := Td.toTup h
        exact ⟨p, vs, rfl, .inr ⟨SqT.of (g1.uh _ _ hp), q _ U1 H1 g1 (Td.tup hp t)⟩⟩
/-- the ints a .. b - 1 as data -/
def rgD (a b : Int) : List PyData := (List.range (b - a).toNat).map fun i => PyData.int (a + (i : Nat))
theorem td_rg (U : Hp) (a b : Int) : TdAll U (rgV a b) (rgD a b) := by
  have h : ∀ l : List Nat, TdAll U (l.map fun i => V.int (a + (i : Nat))) (l.map fun i => PyData.int (a + (i : Nat))) := fun l => by
    induction l with
    | nil => exact .nil
    | cons n l ih => exact .cons (.int _) ih
  exact h _
theorem evn_listRg (h : Ev C ta ρ (iD i)) (h0 : 0 ≤ i) (h1 : i ≤ 100000) : EvN C (tLstRg (tRg1 ta)) ρ (rgD 0 i) := fun σ U H L S Q q =>
  h σ U H L S _ fun v U1 H1 g1 r1 => ⟨i, Td.toInt r1, RgOk.of_le (Int.le_refl _) (by omega) (by omega) h0, fun l hl =>
    q l _ U1 _ (g1.trans (Gr.priv g1.uh hl)) (g1.same.free hl) (up_none g1.uh hl) upd_same (td_rg _ _ _)⟩
theorem ev_tupRg (h : Ev C ta ρ (iD i)) (h0 : 0 ≤ i) (h1 : i ≤ 100000) : Ev C (tTupRg (tRg1 ta)) ρ (.d (.tuple (rgD 0 i))) := fun σ U H L S Q q =>
  h σ U H L S _ fun v U1 H1 g1 r1 => ⟨i, Td.toInt r1, RgOk.of_le (Int.le_refl _) (by omega) (by omega) h0, fun l hl =>
    q _ _ _ (g1.trans (Gr.new g1.uh hl)) (Td.tup upd_same (td_rg _ _ _))⟩
/-! ### + and * of lists, + of tuples -/
theorem evn_cat (ha : Ev C ta ρ (.d (.list ds))) (hb : Ev C tb ρ (.d (.list es))) (hl : ds.length + es.length ≤ 100000) : EvN C (tOp rCat ta tb) ρ (ds ++ es) := fun σ U H L S Q q =>
  ha σ U H L S _ fun v U1 H1 g1 r1 => hb σ U1 H1 (L.mono g1.uu) g1.uh _ fun w U2 H2 g2 r2 => by
    obtain ⟨p, vs, rfl, hp, t⟩ := Td.toLst (r1.mono g2.uu)
    obtain ⟨p', ws, rfl, hp', t'⟩ := Td.toLst r2
    refine ⟨p, p', vs, ws, rfl, rfl, g2.uh _ _ hp, g2.uh _ _ hp', szle (by rw [t.length, t'.length]; exact hl), fun l hl => ?_⟩
    exact q l _ U2 _ ((g1.trans g2).trans (Gr.priv g2.uh hl)) ((g1.trans g2).same.free hl) (up_none g2.uh hl) upd_same (t.append t')
theorem evn_rep (ha : Ev C ta ρ (.d (.list ds))) (hb : Ev C tb ρ (iD i)) (h0 : 0 ≤ i) (h1 : i ≤ 100000) (hl : ds.length * i.toNat ≤ 100000) : EvN C (tOp rRep ta tb) ρ (List.replicate i.toNat ds).flatten := fun σ U H L S Q q =>
  ha σ U H L S _ fun v U1 H1 g1 r1 => hb σ U1 H1 (L.mono g1.uu) g1.uh _ fun w U2 H2 g2 r2 => by
    obtain ⟨p, vs, rfl, hp, t⟩ := Td.toLst (r1.mono g2.uu)
    cases Td.toInt r2
    refine ⟨p, i, vs, rfl, rfl, g2.uh _ _ hp, by omega, by omega, szle (by rw [t.length]; exact hl), fun l hl => ?_⟩
    exact q l _ U2 _ ((g1.trans g2).trans (Gr.priv g2.uh hl)) ((g1.trans g2).same.free hl) (up_none g2.uh hl) upd_same (t.rep _)
theorem rv_catT (hl : ds.length + es.length ≤ 100000) : RV C (rCatA K) (.d (.tuple ds)) (.d (.tuple es)) (.d (.tuple (ds ++ es))) := fun U H x y S rx ry Q q => by
  obtain ⟨p, vs, rfl, hp, t⟩ := Td.toTup rx
  obtain ⟨p', ws, rfl, hp', t'⟩ := Td.toTup ry
  refine ⟨p, p', vs, ws, rfl, rfl, SqT.of (S _ _ hp), SqT.of (S _ _ hp'), szle (by rw [t.length, t'.length]; exact hl), fun e => ?_, fun _ e => ?_, fun _ _ l hl => ?_⟩
  · subst e
    have z : ds = [] := List.length_eq_zero_iff.mp t.length.symm
    subst z
    exact q _ U H (.refl S) (Td.tup hp' t')
  · subst e
    have z : es = [] := List.length_eq_zero_iff.mp t'.length.symm
    subst z
    rw [List.append_nil] at q
    exact q _ U H (.refl S) (Td.tup hp t)
  · exact q _ _ _ (Gr.new S hl) (Td.tup upd_same ((t.append t').mono (same_upd (up_none S hl))))
theorem rv_repT (h0 : ds ≠ []) (h1 : 2 ≤ i) (h2 : i ≤ 1000) (hl : ds.length ≤ 1000) : RV C (rRepT K) (.d (.tuple ds)) (iD i) (.d (.tuple (List.replicate i.toNat ds).flatten)) := fun U H x y S rx ry Q q => by
  obtain ⟨p, vs, rfl, hp, t⟩ := Td.toTup rx
  cases Td.toInt ry
  refine ⟨p, i, vs, rfl, rfl, SqT.of (S _ _ hp), fun e => ?_, h1, h2, by rw [t.length]; exact hl, fun l hl => ?_⟩
  · rw [e] at t
    exact h0 (List.length_eq_zero_iff.mp t.length.symm)
  · exact q _ _ _ (Gr.new S hl) (Td.tup upd_same ((t.rep _).mono (same_upd (up_none S hl))))
/-! ### slices -/
def EvO (C : Addr) (to : TO) (ρ : Ro) (o : Option Int) : Prop := ∀ (σ : L2.St) (U H : Hp), Lo C U σ ρ → Same U H → ∀ Q : Option Int → Hp → Prop, (∀ U' H', Gr [] U H U' H' → Q o H') → to σ H Q
theorem evo_none : EvO C tNoPart ρ none := fun σ U H L S Q q => q U H (.refl S)
theorem evo_some (h : Ev C te ρ (iD i)) : EvO C (tPart te) ρ (some i) := fun σ U H L S Q q => h σ U H L S _ fun v U1 H1 g1 r1 => ⟨i, Td.toInt r1, q U1 H1 g1⟩
def cutD (xs : List PyData) (lo hi : Option Int) : List PyData := (xs.drop (HT.sIx xs.length 0 lo)).take (HT.sIx xs.length xs.length hi - HT.sIx xs.length 0 lo)
theorem td_cut {U : Hp} {vs : List V} (t : TdAll U vs ds) (lo hi : Option Int) : TdAll U (cutV vs lo hi) (cutD ds lo hi) := by
  unfold cutV cutD
  rw [t.length]
  exact (t.drop _).take _
theorem ev_slT {tl th : TO} {lo hi : Option Int} (h : Ev C te ρ (.d (.tuple ds))) (hl : EvO C tl ρ lo) (hh : EvO C th ρ hi) : Ev C (tSl (rSlA K) te tl th) ρ (.d (.tuple (cutD ds lo hi))) := fun σ U H L S Q q =>
  h σ U H L S _ fun v U1 H1 g1 r1 => hl σ U1 H1 (L.mono g1.uu) g1.uh _ fun U2 H2 g2 => hh σ U2 H2 (L.mono (g1.trans g2).uu) g2.uh _ fun U3 H3 g3 => by
    obtain ⟨p, vs, rfl, hp, t⟩ := Td.toTup (r1.mono (g2.trans g3).uu)
    refine ⟨p, vs, rfl, SqT.of (g3.uh _ _ hp), fun e => ?_, fun _ l hl => ?_⟩
    · have e1 : cutD ds lo hi = ds := by
        unfold cutD
        rw [← t.length, e.1, e.2, t.length, Nat.sub_zero, List.drop_zero, List.take_length]
      rw [e1] at q
      exact q _ U3 H3 ((g1.trans g2).trans g3) (Td.tup hp t)
    · exact q _ _ _ (((g1.trans g2).trans g3).trans (Gr.new g3.uh hl)) (Td.tup upd_same ((td_cut t lo hi).mono (same_upd (up_none g3.uh hl))))
theorem evn_slL {tl th : TO} {lo hi : Option Int} (h : Ev C te ρ (.d (.list ds))) (hl : EvO C tl ρ lo) (hh : EvO C th ρ hi) : EvN C (tSl (rSlL K) te tl th) ρ (cutD ds lo hi) := fun σ U H L S Q q =>
  h σ U H L S _ fun v U1 H1 g1 r1 => hl σ U1 H1 (L.mono g1.uu) g1.uh _ fun U2 H2 g2 => hh σ U2 H2 (L.mono (g1.trans g2).uu) g2.uh _ fun U3 H3 g3 => by
    obtain ⟨p, vs, rfl, hp, t⟩ := Td.toLst (r1.mono (g2.trans g3).uu)
    have g := (g1.trans g2).trans g3
    exact ⟨p, vs, rfl, SqL.of (g3.uh _ _ hp), fun l hl => q l _ U3 _ (g.trans (Gr.priv g3.uh hl)) (g.same.free hl) (up_none g3.uh hl) upd_same (td_cut t lo hi)⟩
/-! ### sums, greatest, all -/
theorem rc_sum {ns : List Int} : RC C (rSum K) [.d (intsL ns)] (iD ns.sum) := fun U H xs S rx Q q => by
  cases rx with
  | cons h t =>
    cases t
    obtain ⟨p, vs, rfl, hp, t⟩ := Td.toLst h
    have e := t.ints
    subst e
    exact ⟨p, ns, rfl, SqL.of (S _ _ hp), q _ U H (.refl S) (.int _)⟩
theorem rc_max {ns : List Int} {m : Int} (hm : m ∈ ns) (hg : ∀ y ∈ ns, y ≤ m) : RC C (rMax K) [.d (intsL ns)] (iD m) := fun U H xs S rx Q q => by
  cases rx with
  | cons h t =>
    cases t
    obtain ⟨p, vs, rfl, hp, t⟩ := Td.toLst h
    have e := t.ints
    subst e
    refine ⟨p, ns, rfl, SqL.of (S _ _ hp), List.length_pos_of_mem hm, fun m' h1 h2 => ?_⟩
    have e : m' = m := Int.le_antisymm (hg _ h1) (h2 _ hm)
    subst e
    exact q _ U H (.refl S) (.int _)
theorem rc_all {bs : List Bool} : RC C (rAll K) [.d (.list (bs.map PyData.bool))] (bD (bs.all id)) := fun U H xs S rx Q q => by
  cases rx with
  | cons h t =>
    cases t
    obtain ⟨p, vs, rfl, hp, t⟩ := Td.toLst h
    have e := t.bls
    subst e
    exact ⟨p, bs, rfl, SqL.of (S _ _ hp), q _ U H (.refl S) (.bl _)⟩
/-! ### == of data -/
theorem rv_eqD {d e : PyData} {p : Bool} (h1 : SeqAt.shaped d = true) (h2 : SeqAt.shaped e = true) (h : PyData.eqv d e = p) : RV C (rEqD K) (.d d) (.d e) (bD p) := fun U H x y S rx ry Q q =>
  ⟨d, e, Td.dp S rx, Td.dp S ry, h1, h2, by rw [h]; exact q _ U H (.refl S) (.bl p)⟩
theorem rv_neD {d e : PyData} {p : Bool} (h1 : SeqAt.shaped d = true) (h2 : SeqAt.shaped e = true) (h : (!PyData.eqv d e) = p) : RV C (rNeD K) (.d d) (.d e) (bD p) := fun U H x y S rx ry Q q =>
  ⟨d, e, Td.dp S rx, Td.dp S ry, h1, h2, by rw [h]; exact q _ U H (.refl S) (.bl p)⟩
theorem rv_notInD {d : PyData} {p : Bool} (h1 : SeqAt.shaped d = true) (h2 : SeqAt.shaped (.list ds) = true) (h : (!ds.any fun z => PyData.eqv z d) = p) : RV C (rNotInD K) (.d d) (.d (.list ds)) (bD p) := fun U H x y S rx ry Q q =>
  ⟨d, ds, Td.dp S rx, Td.dp S ry, h1, h2, by rw [h]; exact q _ U H (.refl S) (.bl p)⟩
/-! ### fields of a web -/
theorem ev_things {n m : Nat} {ts : List (Nat × Nat)} (h : Ev C te ρ (.web n m ts)) (hc : Cls K C) (hn : NoAttr K C "things") : Ev C (tFld K te "things") ρ (iD n) := fun σ U H L S Q q =>
  h σ U H L S _ fun v U1 H1 g1 ⟨p, dx, t, e1, e2, e3⟩ => ⟨p, C, dx, _, _, e1, g1.uh _ _ e2, hc, hn, rfl, q _ U1 H1 g1 (.int _)⟩
theorem lookup_ties (n m : Nat) (t : Addr) : (webF n m t).lookup ("ties" : Str) = some (.ref t) := rfl
theorem lookup_clubs (n m : Nat) (t : Addr) : (webF n m t).lookup ("clubs" : Str) = some (.int m) := rfl
theorem ev_clubs {n m : Nat} {ts : List (Nat × Nat)} (h : Ev C te ρ (.web n m ts)) (hc : Cls K C) (hn : NoAttr K C "clubs") : Ev C (tFld K te "clubs") ρ (iD m) := fun σ U H L S Q q =>
  h σ U H L S _ fun v U1 H1 g1 ⟨p, dx, t, e1, e2, e3⟩ => ⟨p, C, dx, _, .int m, e1, g1.uh _ _ e2, hc, hn, lookup_clubs n m t, q _ U1 H1 g1 (.int _)⟩
theorem ev_ties {n m : Nat} {ts : List (Nat × Nat)} (h : Ev C te ρ (.web n m ts)) (hc : Cls K C) (hn : NoAttr K C "ties") : Ev C (tFld K te "ties") ρ (.d (.tuple (ts.map pairD))) := fun σ U H L S Q q =>
  h σ U H L S _ fun v U1 H1 g1 ⟨p, dx, t, e1, e2, e3⟩ => ⟨p, C, dx, _, _, e1, g1.uh _ _ e2, hc, hn, lookup_ties n m t, q _ U1 H1 g1 e3⟩
end

/-! ### walked things -/
def Wk (C : Addr) (J : It) (U : Hp) (xs : List DV) : Prop := ∀ U' H', Same U U' → Same U' H' → ∀ i : Nat, (∀ d, xs[i]? = some d → J.go i H' ∧ ∀ x H'', J.yld i H' x H'' → ∃ U'', Gr [] U' H' U'' H'' ∧ Rp C U'' x d) ∧ (xs.length ≤ i → J.stop i H')
def EvI (C : Addr) (wi : TI) (ρ : Ro) (xs : List DV) : Prop := ∀ (σ : L2.St) (U H : Hp), Lo C U σ ρ → Same U H → ∀ R : It → Hp → Prop, (∀ J U' H', Gr [] U H U' H' → Wk C J U' xs → R J H') → wi σ H R
section
variable {C : Addr} {K : PySem.W.Frag} {ρ : Ro} {te ta : TE} {i j : Int} {ds : List PyData}
theorem evi_list (h : Ev C te ρ (.d (.list ds))) : EvI C (iList K te) ρ (ds.map DV.d) := fun σ U H L S R q => h σ U H L S _ fun v U1 H1 g1 r1 => by
  obtain ⟨p, vs, rfl, hp, t⟩ := Td.toLst r1
  refine ⟨p, rfl, ⟨vs, SqL.of (g1.uh _ _ hp)⟩, q _ U1 H1 g1 fun U' H' e1 e2 i => ⟨fun d hd => ?_, fun hi => ⟨vs, SqL.of (e2 _ _ (e1 _ _ hp)), by rw [t.length]; simpa using hi⟩⟩⟩
  rw [List.getElem?_map] at hd
  cases e : ds[i]? with
  | none => rw [e] at hd; cases hd
  | some z =>
    rw [e] at hd
    have hd' : DV.d z = d := Option.some.inj hd
    subst hd'
    obtain ⟨w, h1, h2⟩ := t.get e
    have hq : SqL K H' p vs := SqL.of (e2 _ _ (e1 _ _ hp))
    refine ⟨⟨vs, w, hq, h1⟩, fun x H'' hy => ?_⟩
    obtain ⟨rfl, hx⟩ := hy
    have e3 : x = w := Option.some.inj ((hx vs hq).symm.trans h1)
    subst e3
    exact ⟨U', .refl e2, h2.mono e1⟩
theorem evi_tup (h : Ev C te ρ (.d (.tuple ds))) : EvI C (iTup K te) ρ (ds.map DV.d) := fun σ U H L S R q => h σ U H L S _ fun v U1 H1 g1 r1 => by
  obtain ⟨p, vs, rfl, hp, t⟩ := Td.toTup r1
  refine ⟨p, rfl, ⟨vs, SqT.of (g1.uh _ _ hp)⟩, q _ U1 H1 g1 fun U' H' e1 e2 i => ⟨fun d hd => ?_, fun hi => ⟨vs, SqT.of (e2 _ _ (e1 _ _ hp)), by rw [t.length]; simpa using hi⟩⟩⟩
  rw [List.getElem?_map] at hd
  cases e : ds[i]? with
  | none => rw [e] at hd; cases hd
  | some z =>
    rw [e] at hd
    have hd' : DV.d z = d := Option.some.inj hd
    subst hd'
    obtain ⟨w, h1, h2⟩ := t.get e
    have hq : SqT K H' p vs := SqT.of (e2 _ _ (e1 _ _ hp))
    refine ⟨⟨vs, w, hq, h1⟩, fun x H'' hy => ?_⟩
    obtain ⟨rfl, hx⟩ := hy
    have e3 : x = w := Option.some.inj ((hx vs hq).symm.trans h1)
    subst e3
    exact ⟨U', .refl e2, h2.mono e1⟩
theorem wk_rng {lo : Int} {n : Nat} {U : Hp} : Wk C (Itr lo n) U ((List.range n).map fun i => iD (lo + (i : Nat))) := fun U' H' e1 e2 i => by
  refine ⟨fun d hd => ?_, fun hi => ?_⟩
  · rw [List.getElem?_map] at hd
    by_cases hi : i < n
    · rw [List.getElem?_range hi] at hd
      have hd' : iD (lo + (i : Nat)) = d := Option.some.inj hd
      subst hd'
      refine ⟨hi, fun x H'' hy => ?_⟩
      obtain ⟨rfl, rfl⟩ := hy
      exact ⟨U', .refl e2, .int _⟩
    · rw [List.getElem?_eq_none (by rw [List.length_range]; omega)] at hd
      cases hd
  · rw [List.length_map, List.length_range] at hi
    exact hi
theorem evi_rng1 {t : TA} (h : EvA C t ρ [iD i]) (h0 : -100000 ≤ i) (h1 : i ≤ 100000) : EvI C (iRng1 t) ρ ((List.range i.toNat).map fun j => iD (0 + (j : Nat))) := fun σ U H L S R q => h σ U H L S _ fun vs U1 H1 g1 r1 => by
  cases r1 with
  | cons a t =>
    cases t
    cases Td.toInt a
    exact ⟨i, rfl, by omega, by omega, q _ U1 H1 g1 wk_rng⟩
theorem evi_rng2 {t : TA} (h : EvA C t ρ [iD i, iD j]) (h0 : -100000 ≤ i) (h1 : i ≤ 100000) (h2 : -100000 ≤ j) (h3 : j ≤ 100000) : EvI C (iRng2 t) ρ ((List.range (j - i).toNat).map fun k => iD (i + (k : Nat))) := fun σ U H L S R q => h σ U H L S _ fun vs U1 H1 g1 r1 => by
  cases r1 with
  | cons a t =>
    cases t with
    | cons b t =>
      cases t
      cases Td.toInt a
      cases Td.toInt b
      exact ⟨i, j, rfl, ⟨by omega, by omega, by omega, by omega⟩, q _ U1 H1 g1 wk_rng⟩
end

/-! ### targets -/
theorem wipe_get (σ : L2.St) (i : Nat) : ∀ vs : List Nat, (wipe σ vs)[i]? = if i ∈ vs ∧ i < σ.length then some none else σ[i]?
  | [] => by simp [wipe]
  | v :: vs => by
    have ih := wipe_get σ i vs
    unfold wipe
    by_cases hv : v = i
    · subst hv
      by_cases hl : v < σ.length
      · rw [List.getElem?_set_self (by rw [wipe_length]; exact hl), if_pos ⟨List.mem_cons_self, hl⟩]
      · rw [List.getElem?_eq_none (by rw [List.length_set, wipe_length]; omega), if_neg (fun z => hl z.2), List.getElem?_eq_none (by omega)]
    · rw [List.getElem?_set_ne hv, ih]
      have e : (i ∈ v :: vs) ↔ (i ∈ vs) := by
        rw [List.mem_cons]
        exact ⟨fun z => z.resolve_left fun q => hv q.symm, .inr⟩
      simp only [e]
theorem wipe_ext {σ σ' : L2.St} {vs : List Nat} (hl : σ'.length = σ.length) (h : ∀ i, i ∉ vs → σ'[i]? = σ[i]?) : wipe σ' vs = wipe σ vs := by
  apply List.ext_getElem?
  intro i
  rw [wipe_get, wipe_get, hl]
  split
  · rfl
  · rename_i hn
    by_cases hi : i ∈ vs
    · have : ¬ i < σ.length := fun z => hn ⟨hi, z⟩
      rw [List.getElem?_eq_none (by omega), List.getElem?_eq_none (by omega)]
    · exact h i hi
theorem wipe_wipe (σ : L2.St) (vs : List Nat) : wipe (wipe σ vs) vs = wipe σ vs := wipe_ext (wipe_length _ _) fun i hi => by
  rw [wipe_get, if_neg fun z => hi z.1]
/-- the target g takes d, the slots js change -/
def EvG (C : Addr) (g : TG) (js : List Nat) (d : DV) (ρ ρ' : Ro) : Prop := ∀ (σ : L2.St) (U H : Hp) (x : V), Lo C U σ ρ → Same U H → Rp C U x d → ∀ Q : L2.St → Hp → Prop, (∀ σ', Lo C U σ' ρ' → σ'.length = σ.length → (∀ i, i ∉ js → σ'[i]? = σ[i]?) → Q σ' H) → g x σ H Q
section
variable {C : Addr} {K : PySem.W.Frag} {ρ : Ro} {d : DV} {j l : Nat} {c e : PyData}
theorem evg_name : EvG C (gName j) [j] d ρ (ρ.set j (some d)) := fun σ U H x L S r Q q =>
  q _ (L.set r) (List.length_set ..) fun i hi => List.getElem?_set_ne (fun z => hi (by simp [z]))
theorem evg_pair : EvG C (gTup K 2 (gCons (gName j) (gCons (gName l) gNil))) [j, l] (.d (.tuple [c, e])) ρ ((ρ.set j (some (.d c))).set l (some (.d e))) := fun σ U H x L S r Q q => by
  obtain ⟨p, vs, rfl, hp, t⟩ := Td.toTup r
  cases t with
  | cons h1 t =>
    cases t with
    | cons h2 t =>
      cases t
      refine ⟨p, _, rfl, SqT.of (S _ _ hp), rfl, _, _, rfl, _, _, rfl, rfl, ?_⟩
      refine q _ ((L.set (d := .d c) h1).set (d := .d e) h2) (by rw [List.length_set, List.length_set]) fun i hi => ?_
      simp only [List.mem_cons, not_or, List.not_mem_nil, not_false_eq_true, and_true] at hi
      rw [List.getElem?_set_ne (fun z => hi.2 z.symm), List.getElem?_set_ne (fun z => hi.1 z.symm)]
end
end Kx
end
section
set_option Elab.async false
set_option linter.all false
set_option maxRecDepth 100000
set_option maxHeartbeats 4000000
/-! Comprehensions, statements, promises. -/
namespace Kx
open PySem PySem.Spec L2

/-- a private list at p with these data -/
def ML (U H : Hp) (p : Addr) (ds : List PyData) : Prop := U p = none ∧ ∃ vs, H p = some (.lst vs) ∧ TdAll U vs ds
theorem ML.step {M : List Addr} {U H U' H' : Hp} {p : Addr} {ds : List PyData} (m : ML U H p ds) (g : Gr M U H U' H') (hp : p ∉ M) : ML U' H' p ds := by
  obtain ⟨h1, vs, h2, t⟩ := m
  exact ⟨g.none_u (ne_none h2) h1, vs, g.hh _ _ h2 hp, t.mono g.uu⟩
theorem ML.here {U H : Hp} {p : Addr} {ds : List PyData} (m : ML U H p ds) : H p ≠ none := by
  obtain ⟨_, vs, h2, _⟩ := m
  exact ne_none h2

section
variable {C : Addr} {K : PySem.W.Frag} {ρ ρ' : Ro} {te ta tb : TE} {tt : TT} {wi : TI} {g : TG} {js vs : List Nat} {α : Type}
/-- a list comprehension over l (told by enc): f keeps, v tells the element -/
theorem evn_lcIf (l : List α) (enc : α → DV) (f : α → Bool) (v : α → PyData) (hi : EvI C wi ρ (l.map enc)) (hl : l.length ≤ 90000) (hj : ∀ j ∈ js, j ∈ vs)
    (ht : ∀ a ∈ l, ∃ ρ', EvG C g js (enc a) (wipeR ρ vs) ρ' ∧ EvT C tt ρ' (f a) ∧ (f a = true → Ev C te ρ' (.d (v a)))) : EvN C (tLc wi g tt te vs) ρ ((l.filter f).map v) := fun σ U H L S Q q =>
  hi σ U H L S _ fun J U1 H1 g1 wk D hD => by
    have uD : U1 D = none := up_none g1.uh hD
    refine ⟨fun i m H' => ∃ U', i + m = l.length ∧ Gr [D] U1 H1 U' H' ∧ ML U' H' D (((l.take i).filter f).map v), ⟨l.length, U1, by omega, Gr.priv g1.uh hD, uD, [], upd_same, .nil⟩, fun i m H' hW => ?_⟩
    obtain ⟨U', em, gr, ml⟩ := hW
    obtain ⟨w1, w2⟩ := wk U' H' gr.uu gr.uh i
    by_cases hlt : i < l.length
    · have ea : l[i]? = some l[i] := List.getElem?_eq_getElem hlt
      have ed : (l.map enc)[i]? = some (enc l[i]) := by rw [List.getElem?_map, ea]; rfl
      obtain ⟨go, yl⟩ := w1 _ ed
      obtain ⟨ρ', hg, htt, hte⟩ := ht l[i] (List.getElem_mem hlt)
      refine .inr ⟨go, fun H3 => ∃ U3, Gr [D] U1 H1 U3 H3 ∧ ML U3 H3 D (((l.take (i + 1)).filter f).map v), fun H3 ⟨U3, a, b⟩ => ⟨m - 1, by omega, U3, by omega, a, b⟩, fun x H2 hy => ?_⟩
      obtain ⟨U2, g2, rx⟩ := yl x H2 hy
      have L2' : Lo C U2 (wipe σ vs) (wipeR ρ vs) := (L.wipe vs).mono ((g1.uu.trans gr.uu).trans g2.uu)
      have take1 : l.take (i + 1) = l.take i ++ [l[i]] := by rw [List.take_add_one, ea]; rfl
      refine hg _ U2 H2 x L2' g2.uh rx _ fun σ2 L3 len3 same3 => ⟨?_, ?_⟩
      · rw [wipe_ext (σ := wipe σ vs) (σ' := σ2) (by rw [len3]) fun k hk => same3 k fun z => hk (hj k z), wipe_wipe]
      · refine htt σ2 U2 H2 L3 g2.uh _ fun U3 H3 g3 => ?_
        cases hf : f l[i] with
        | true =>
          refine iteT (hte hf σ2 U3 H3 (L3.mono g3.uu) g3.uh _ fun y U4 H4 g4 r4 => ?_)
          have gg : Gr [D] U1 H1 U4 H4 := gr.trans ((g2.trans g3).trans g4).any
          have mm : ML U4 H4 D (((l.take i).filter f).map v) := ml.step (M := []) ((g2.trans g3).trans g4) (by simp)
          obtain ⟨n4, acc, h4, t4⟩ := mm
          refine ⟨acc, h4, szlt ?_, U4, gg.trans (Gr.mut g4.uh n4 (by simp)), n4, acc ++ [y], upd_same, ?_⟩
          · rw [t4.length, List.length_map]
            have := List.length_filter_le f (l.take i)
            rw [List.length_take] at this
            omega
          · rw [take1, List.filter_append, List.map_append]
            have e1 : ([l[i]].filter f).map v = [v l[i]] := by rw [List.filter_cons, if_pos hf]; rfl
            rw [e1]
            exact t4.snoc r4
        | false =>
          refine iteF ⟨U3, gr.trans (g2.trans g3).any, ?_⟩
          have mm : ML U3 H3 D (((l.take i).filter f).map v) := ml.step (M := []) (g2.trans g3) (by simp)
          rw [take1, List.filter_append, List.map_append]
          have e1 : ([l[i]].filter f).map v = [] := by rw [List.filter_cons, if_neg (by rw [hf]; decide)]; rfl
          rw [e1, List.append_nil]
          exact mm
    · have ei : i = l.length := by omega
      have hstop : J.stop i H' := w2 (by rw [List.length_map]; omega)
      refine .inl ⟨hstop, ?_⟩
      rw [ei, List.take_length] at ml
      obtain ⟨n4, acc, h4, t4⟩ := ml
      exact q D acc U' H' (g1.trans (gr.drop (by simpa using hD))) (g1.same.free hD) n4 h4 t4
theorem evn_lc (l : List α) (enc : α → DV) (v : α → PyData) (hi : EvI C wi ρ (l.map enc)) (hl : l.length ≤ 90000) (hj : ∀ j ∈ js, j ∈ vs)
    (ht : ∀ a ∈ l, ∃ ρ', EvG C g js (enc a) (wipeR ρ vs) ρ' ∧ Ev C te ρ' (.d (v a))) : EvN C (tLc wi g tYes te vs) ρ (l.map v) := by
  have h := evn_lcIf (C := C) (js := js) (te := te) (tt := tYes) (vs := vs) (g := g) l enc (fun _ => true) v hi hl hj fun a ha => let ⟨ρ', h1, h2⟩ := ht a ha; ⟨ρ', h1, evt_yes, fun _ => h2⟩
  have e : l.filter (fun _ => true) = l := List.filter_eq_self.mpr fun _ _ => rfl
  rw [e] at h
  exact h
end

/-! ### statements -/
section
variable {C : Addr} {K : PySem.W.Frag} {ρ : Ro} {te ta tb : TE} {tt : TT} {wi : TI} {g : TG} {js : List Nat} {α : Type} {D : Ends} {U H : Hp} {σ : L2.St} {d : DV} {tu tw tz ts : TS} {i : Nat} {c : PyData} {ds : List PyData}
theorem s_seq (h : tu { D with nx := tz D } σ H) : tSeq tu tz D σ H := h
theorem s_asg (L : Lo C U σ ρ) (S : Same U H) (h : Ev C te ρ d) (k : ∀ σ' U' H', Gr [] U H U' H' → Lo C U' σ' (ρ.set i (some d)) → D.nx σ' H') : tAsg te (gName i) D σ H :=
  h σ U H L S _ fun v U1 H1 g1 r1 => k _ U1 H1 g1 ((L.mono g1.uu).set r1)
theorem s_asgP {P : DV → Prop} (L : Lo C U σ ρ) (S : Same U H) (h : EvP C te ρ P) (k : ∀ d σ' U' H', P d → Gr [] U H U' H' → Lo C U' σ' (ρ.set i (some d)) → D.nx σ' H') : tAsg te (gName i) D σ H :=
  h σ U H L S _ fun v d U1 H1 g1 r1 p1 => k d _ U1 H1 p1 g1 ((L.mono g1.uu).set r1)
/-- x = a new list that will change -/
theorem s_asgN (L : Lo C U σ ρ) (S : Same U H) (h : EvN C te ρ ds) (k : ∀ p σ' U' H', Gr [] U H U' H' → H p = none → ML U' H' p ds → Lo C U' σ' (ρ.set i (some (.adr p))) → D.nx σ' H') : tAsg te (gName i) D σ H :=
  h σ U H L S _ fun p vs U1 H1 g1 hp hu h1 t => k p _ U1 H1 g1 hp ⟨hu, vs, h1, t⟩ ((L.mono g1.uu).set (d := .adr p) rfl)
/-- a = b = .. of a target of several names -/
theorem s_asgG {ρ' : Ro} (L : Lo C U σ ρ) (S : Same U H) (h : Ev C te ρ d) (hg : EvG C g js d ρ ρ') (k : ∀ σ' U' H', Gr [] U H U' H' → Lo C U' σ' ρ' → D.nx σ' H') : tAsg te g D σ H :=
  h σ U H L S _ fun v U1 H1 g1 r1 => hg σ U1 H1 v (L.mono g1.uu) g1.uh r1 _ fun σ' L' _ _ => k σ' U1 H1 g1 L'
theorem s_ret (L : Lo C U σ ρ) (S : Same U H) (h : Ev C te ρ d) (k : ∀ v U' H', Gr [] U H U' H' → Rp C U' v d → D.rt v H') : tRet te D σ H := h σ U H L S _ k
theorem s_retP {P : DV → Prop} (L : Lo C U σ ρ) (S : Same U H) (h : EvP C te ρ P) (k : ∀ v d U' H', Gr [] U H U' H' → Rp C U' v d → P d → D.rt v H') : tRet te D σ H := h σ U H L S _ k
theorem s_if {b : Bool} (L : Lo C U σ ρ) (S : Same U H) (h : EvT C tt ρ b) (h1 : b = true → ∀ U' H', Gr [] U H U' H' → Lo C U' σ ρ → tu D σ H') (h2 : b = false → ∀ U' H', Gr [] U H U' H' → Lo C U' σ ρ → tw D σ H') : tIfS tt tu tw D σ H :=
  h σ U H L S _ fun U1 H1 g1 => by
    cases b with
    | true => exact iteT (h1 rfl U1 H1 g1 (L.mono g1.uu))
    | false => exact iteF (h2 rfl U1 H1 g1 (L.mono g1.uu))
/-- the test is known to fail -/
theorem s_no (L : Lo C U σ ρ) (S : Same U H) (h : EvT C tt ρ false) (h2 : ∀ U' H', Gr [] U H U' H' → Lo C U' σ ρ → tw D σ H') : tIfS tt tu tw D σ H := s_if L S h (fun e => nomatch e) fun _ => h2
theorem s_yes (L : Lo C U σ ρ) (S : Same U H) (h : EvT C tt ρ true) (h2 : ∀ U' H', Gr [] U H U' H' → Lo C U' σ ρ → tu D σ H') : tIfS tt tu tw D σ H := s_if L S h (fun _ => h2) fun e => nomatch e
theorem s_next (h : D.nx σ H) : tNext D σ H := h
theorem s_drop (L : Lo C U σ ρ) (S : Same U H) (h : Ev C te ρ d) (k : ∀ U' H', Gr [] U H U' H' → Lo C U' σ ρ → D.nx σ H') : tDrop te D σ H := h σ U H L S _ fun v U1 H1 g1 _ => k U1 H1 g1 (L.mono g1.uu)
/-- xs.append(e), xs private -/
theorem s_app {p : Addr} (L : Lo C U σ ρ) (S : Same U H) (ha : Ev C ta ρ (.adr p)) (he : Ev C te ρ (.d c)) (m : ML U H p ds) (hz : ds.length < 100000) (k : ∀ U' H', Gr [p] U H U' H' → ML U' H' p (ds ++ [c]) → Lo C U' σ ρ → D.nx σ H') :
    tDrop (tBM K "list" rAppend ta (tCons te tNil)) D σ H := by
  show (tBM K "list" rAppend ta (tCons te tNil)) σ H _
  refine ha σ U H L S _ fun v U1 H1 g1 r1 => ?_
  obtain rfl : v = .ref p := r1
  obtain ⟨n1, vs1, h1, t1⟩ := m.step g1 (by simp)
  refine ⟨.inl ⟨rfl, _, SqL.of h1⟩, he σ U1 H1 (L.mono g1.uu) g1.uh _ fun w U2 H2 g2 r2 => ?_⟩
  obtain ⟨n2, vs2, h2, t2⟩ := m.step (g1.trans g2) (by simp)
  exact ⟨p, vs2, w, rfl, rfl, h2, szlt (by rw [t2.length]; exact hz), k U2 _ ((g1.trans g2).any.trans (Gr.mut g2.uh n2 (by simp))) ⟨n2, _, upd_same, t2.snoc r2⟩ (L.mono (g1.trans g2).uu)⟩
/-- xs[e] = v, xs private -/
theorem s_setL {p : Addr} {z : Int} {j : Nat} {tv to ti : TE} (L : Lo C U σ ρ) (S : Same U H) (hv : Ev C tv ρ (.d c)) (ho : Ev C to ρ (.adr p)) (hi : Ev C ti ρ (iD z)) (m : ML U H p ds) (hj : ixN ds.length z = some j)
    (k : ∀ U' H', Gr [p] U H U' H' → ML U' H' p (ds.set j c) → Lo C U' σ ρ → D.nx σ H') : tAsg tv (gSub to ti rSetL) D σ H := by
  show tv σ H _
  refine hv σ U H L S _ fun v U1 H1 g1 r1 => ?_
  show to σ H1 _
  refine ho σ U1 H1 (L.mono g1.uu) g1.uh _ fun o U2 H2 g2 r2 => ?_
  obtain rfl : o = .ref p := r2
  refine hi σ U2 H2 (L.mono (g1.trans g2).uu) g2.uh _ fun w U3 H3 g3 r3 => ?_
  cases Td.toInt r3
  have g := (g1.trans g2).trans g3
  obtain ⟨n3, vs3, h3, t3⟩ := m.step g (by simp)
  exact ⟨p, vs3, z, j, rfl, rfl, h3, by rw [t3.length]; exact hj, k U3 _ (g.any.trans (Gr.mut g3.uh n3 (by simp))) ⟨n3, _, upd_same, t3.set j (r1.mono (g2.trans g3).uu)⟩ (L.mono g.uu)⟩

/-- the end of a turn -/
def Nxt (C : Addr) (U : Hp) (ρ : Ro) (R : Hp → Hp → Prop) : L2.St → Hp → Prop := fun σ H => ∃ U', Same U U' ∧ Same U' H ∧ Lo C U' σ ρ ∧ R U' H
theorem Nxt.of {R : Hp → Hp → Prop} {M : List Addr} {Ub U0 H0 : Hp} (b : Same Ub U0) (g : Gr M U0 H0 U H) (L : Lo C U σ ρ) (r : R U H) : Nxt C Ub ρ R σ H := ⟨U, b.trans g.uu, g.uh, L, r⟩
/-- for target in wi: ..; ρs: what the slots hold ahead of turn i; R: what else holds there -/
theorem s_for (l : List α) (enc : α → DV) (ρs : Nat → Ro) (R : Nat → Hp → Hp → Prop) (L : Lo C U σ ρ) (S : Same U H) (hi : EvI C wi ρ (l.map enc)) (h0 : Sub (ρs 0) ρ) (r0 : ∀ U1 H1, Gr [] U H U1 H1 → R 0 U1 H1)
    (hs : ∀ i (a : α) Ub U0 H0 U1 H1, l[i]? = some a → R i U0 H0 → Same U Ub → Same Ub U1 → Gr [] U0 H0 U1 H1 → ∃ js ρ', EvG C g js (enc a) (ρs i) ρ' ∧ ∀ σ2, Lo C U1 σ2 ρ' →
      tu { D with nx := Nxt C Ub (ρs (i + 1)) (R (i + 1)), ct := Nxt C Ub (ρs (i + 1)) (R (i + 1)), bk := D.nx } σ2 H1)
    (hd : ∀ U1 H1 σ1, Lo C U1 σ1 (ρs l.length) → Same U U1 → Same U1 H1 → R l.length U1 H1 → D.nx σ1 H1) : tFor wi g tu D σ H := by
  refine hi σ U H L S _ fun J U1 H1 g1 wk => ?_
  refine ⟨fun i m σ' H' => ∃ U', i + m = l.length ∧ Same U1 U' ∧ Same U' H' ∧ Lo C U' σ' (ρs i) ∧ R i U' H', ⟨l.length, U1, by omega, .refl _, g1.uh, (L.mono g1.uu).sub h0, r0 U1 H1 g1⟩, fun i m σ' H' hW => ?_⟩
  obtain ⟨U', em, s1, s2, L', r⟩ := hW
  obtain ⟨w1, w2⟩ := wk U' H' s1 s2 i
  by_cases hlt : i < l.length
  · have ea : l[i]? = some l[i] := List.getElem?_eq_getElem hlt
    have ed : (l.map enc)[i]? = some (enc l[i]) := by rw [List.getElem?_map, ea]; rfl
    obtain ⟨go, yl⟩ := w1 _ ed
    refine .inr ⟨go, fun σ3 H3 => ∃ U3, Same U1 U3 ∧ Same U3 H3 ∧ Lo C U3 σ3 (ρs (i + 1)) ∧ R (i + 1) U3 H3, fun σ3 H3 ⟨U3, a, b, c, e⟩ => ⟨m - 1, by omega, U3, by omega, a, b, c, e⟩, fun x H2 hy => ?_⟩
    obtain ⟨U2, g2, rx⟩ := yl x H2 hy
    obtain ⟨js, ρ', hg, body⟩ := hs i l[i] U1 U' H' U2 H2 ea r g1.uu (s1.trans g2.uu) g2
    refine hg σ' U2 H2 x (L'.mono g2.uu) g2.uh rx _ fun σ2 L2' _ _ => ?_
    exact body σ2 L2'
  · have ei : i = l.length := by omega
    subst ei
    exact .inl ⟨w2 (by rw [List.length_map]; exact Nat.le_refl _), hd U' H' σ' L' (g1.uu.trans s1) s2 r⟩
end
end Kx
end
section
set_option Elab.async false
set_option linter.all false
set_option maxRecDepth 100000
set_option maxHeartbeats 4000000
/-! Promises over data; calls. -/
namespace Kx
open PySem PySem.Spec L2
open PyProof.Rows (envOfC)

structure Prm (α : Type) where
  args : α → List DV
  pre : α → Prop
  post : α → DV → Prop
/-- a def that gives one result -/
def Prm.fn {α : Type} (args : α → List DV) (pre : α → Prop) (res : α → DV) : Prm α := ⟨args, pre, fun x d => d = res x⟩
def Prm.sp {α : Type} (C : Addr) (P : Prm α) : Sp := fun vs H Q _ => ∃ x U, Same U H ∧ RpAll C U vs (P.args x) ∧ P.pre x ∧ ∀ v d U' H', Gr [] U H U' H' → Rp C U' v d → P.post x d → Q v H'
section
variable {C : Addr} {ρ : Ro} {α : Type} {P : Prm α} {E : XK} {t : TA} {dvs : List V} {ds dd : List DV}
theorem RpAll.app {U : Hp} : ∀ {vs ws : List V} {ds es : List DV}, RpAll C U vs ds → RpAll C U ws es → RpAll C U (vs ++ ws) (ds ++ es)
  | _, _, _, _, .nil, t => t
  | _, _, _, _, .cons h r, t => .cons h (RpAll.app r t)
theorem evp_fnD (x : α) (h : EvA C t ρ ds) (e : ds ++ dd = P.args x) (hd : ∀ U, RpAll C U dvs dd) (hp : P.pre x) : EvP C (tCall (P.sp C) dvs E t) ρ (P.post x) := fun σ U H L S Q q =>
  h σ U H L S _ fun vs U1 H1 g1 r1 => ⟨x, U1, g1.uh, e ▸ (r1.app (hd U1)), hp, fun v d U2 H2 g2 r2 p2 => q v d U2 H2 (g1.trans g2) r2 p2⟩
theorem evp_fn (x : α) (h : EvA C t ρ (P.args x)) (hp : P.pre x) : EvP C (tCall (P.sp C) [] E t) ρ (P.post x) := evp_fnD x h (List.append_nil _) (fun _ => .nil) hp
theorem ev_fn {args : α → List DV} {pre : α → Prop} {res : α → DV} (x : α) (h : EvA C t ρ (args x)) (hp : pre x) : Ev C (tCall ((Prm.fn args pre res).sp C) [] E t) ρ (res x) := EvP.det (evp_fn (P := Prm.fn args pre res) x h hp)
theorem ev_fnD {args : α → List DV} {pre : α → Prop} {res : α → DV} (x : α) (h : EvA C t ρ ds) (e : ds ++ dd = args x) (hd : ∀ U, RpAll C U dvs dd) (hp : pre x) : Ev C (tCall ((Prm.fn args pre res).sp C) dvs E t) ρ (res x) := EvP.det (evp_fnD (P := Prm.fn args pre res) x h e hd hp)
/-- nothing is promised: for calls that are never come to -/
def spNo : Sp := fun _ _ _ _ => False
end

/-- a def as callers see it -/
structure Has (P : Program) (w : World) (K : PySem.W.Frag) (mg : Str → Option Value) (base : Heap) (x : Str) (k : Nat) (ps : List Str) (dvs : List V) (sp : Sp) : Prop where
  ex : ∃ f fd ds, FnOk P w K mg base CX0 k f fd ps sp ∧ mg x = some (.ref f) ∧ PySem.W.keepIn K (.ref f) = true ∧ Binds K fd ps ds ∧ Vals dvs ds
section
variable {X : Cx} {k : Nat} {x : Str} {ps : List Str} {dvs : List V} {sp : Sp} {p pos : Pos} {e : Expr} {es : List Expr} {t : TA}
theorem pe_fn (F : Has X.prog X.w X.K X.mg X.base x k ps dvs sp) (hr : Room k X.A) (hg : Gl X x) (ha : PA X (e :: es) t) (hdb : (x == ("__debug__" : Str)) = false := by decide)
    (he : starEach (e :: es) X.env = (false, eval e X.env) :: starEach es X.env := by rfl) (hpl : (backTo pos (starEach es X.env)).any (·.1) = false := by rfl) :
    PE X (.Call (.Name x p) (e :: es) [] pos) (tCall sp dvs E0 t) := by
  obtain ⟨f, fd, ds, h1, h2, h3, h4, h5⟩ := F.ex
  exact pe_call h1 hr hg h2 h3 h4 h5 pass0 ha hdb he hpl
end
section
variable {P : Program} {w : World} {K : PySem.W.Frag} {mg : Str → Option Value} {base : Heap} {C : Addr} {α : Type}
/-- THE RULE for a def that keeps a promise over data -/
theorem def_ok {x qual : Str} {st : Stmt} {f : Addr} {fd : FuncData} {N ps : List Str} {k : Nat} {Pm : Prm α} (F : Fun K x qual st f fd) (S : FnScope N ps (defScope st)) (hl : ∀ y, (Pm.args y).length = ps.length) (hN : ps.length ≤ N.length)
    (hb : ∀ (cdv : Value) (A : Around) (outer : List Env) (s : Shared) (H : Hp) (E : XK), Room k (A.deeper (envOfC qual (defScope st) s.heap.objs.size f cdv)) →
      ∃ t, PSs (cxOf CX0 P w K mg base N qual (defScope st) f cdv A outer s H E).nox (defBody st) t ∧ ∀ (y : α) (U : Hp) (σ : L2.St) (Q : VK), Same U H → Lo C U σ ((Pm.args y).map some ++ List.replicate (N.length - (Pm.args y).length) none) → Pm.pre y →
        (∀ v d U' H', Gr [] U H U' H' → Rp C U' v d → Pm.post y d → Q v H') → t { nx := fun _ H' => Q .non H', rt := Q } σ H) : FnOk P w K mg base CX0 (k + 1) f fd ps (Pm.sp C) := by
  refine F.ok S (fun vs H Q E h => ?_) (fun cdv A outer s H vs Q E hr h => ?_)
  · obtain ⟨y, U, _, h2, _⟩ := h
    rw [Paired.length h2, hl y]
  · obtain ⟨t, h1, h2⟩ := hb cdv A outer s H E hr
    obtain ⟨y, U, hs, hv, hp, q⟩ := h
    have e : vs.length = ps.length := (Paired.length hv).trans (hl y)
    exact ⟨t, h1, h2 y U _ Q hs (loc_start hv (by omega)) hp q⟩
theorem Has.mk' {x qual : Str} {st : Stmt} {f : Addr} {fd : FuncData} {ps : List Str} {k : Nat} {sp : Sp} (F : Fun K x qual st f fd) (G : FnOk P w K mg base CX0 k f fd ps sp) (g : mg x = some (.ref f)) (b : Binds K fd ps []) : Has P w K mg base x k ps [] sp :=
  ⟨f, fd, [], G, g, F.kp, b, .nil⟩
end
end Kx
end
section
set_option Elab.async false
set_option linter.all false
set_option maxRecDepth 100000
set_option maxHeartbeats 4000000
/-! isinstance, abs, int, min; what else the text wants. -/
namespace Kx
open PySem PySem.Spec L2
open PyProof.Rows (envOfC)
section
variable {C : Addr} {K : PySem.W.Frag} {ρ : Ro} {te ta tb : TE} {d : DV} {i j k : Int} {U H : Hp} {v : V}
def tyN : DV → Option String
  | .d .none => some "NoneType"
  | .d (.bool _) => some "bool"
  | .d (.int _) => some "int"
  | .d (.str _) => some "str"
  | .d (.list _) => some "list"
  | .d (.tuple _) => some "tuple"
  | _ => none
theorem ty_of (S : Same U H) {t : String} : ∀ {d : DV}, Rp C U v d → tyN d = some t → TyX K H v (.type t)
  | .d .none, r, e => by cases e; rw [Td.toNon r]; exact .base .non
  | .d (.bool b), r, e => by cases e; rw [Td.toBl r]; exact .base (.bl b)
  | .d (.int b), r, e => by cases e; rw [Td.toInt r]; exact .base (.int b)
  | .d (.str b), r, e => by cases e; cases (show Td U v (.str b) from r); exact .base (.str b)
  | .d (.list b), r, e => by
    cases e
    obtain ⟨p, vs, rfl, hp, _⟩ := Td.toLst r
    exact .base (.lst (S _ _ hp))
  | .d (.tuple b), r, e => by
    cases e
    obtain ⟨p, vs, rfl, hp, _⟩ := Td.toTup r
    exact .base (.tup (S _ _ hp))
  | .d (.dict _), _, e => by cases e
  | .adr _, _, e => by cases e
  | .web .., _, e => by cases e
  | .tab _, _, e => by cases e
  | .adrs _, _, e => by cases e
  | .scr _ _, _, e => by cases e
theorem ev_isi {n t : String} {b : Bool} (h : Ev C ta ρ d) (ht : tyN d = some t) (hb : kitB t n = some b) : Ev C (tCB (rIsi K) (tCons ta (tCons (tC (.ty n)) tNil))) ρ (bD b) := fun σ U H L S Q q =>
  h σ U H L S _ fun v U1 H1 g1 r1 => ⟨v, .ty n, .type t, .type n, b, rfl, .ty n, ty_of g1.uh r1 ht, kit_ty hb, q _ U1 H1 g1 (.bl b)⟩
theorem ev_isiT {n1 n2 t : String} {b1 b2 b : Bool} (h : Ev C ta ρ d) (ht : tyN d = some t) (h1 : kitB t n1 = some b1) (h2 : kitB t n2 = some b2) (hb : (b1 || b2) = b) :
    Ev C (tCB (rIsiT K) (tCons ta (tCons (tTup (tCons (tC (.ty n1)) (tCons (tC (.ty n2)) tNil))) tNil))) ρ (bD b) := fun σ U H L S Q q =>
  h σ U H L S _ fun v U1 H1 g1 r1 => ⟨by show 2 ≤ sizeLine; decide, fun p hp => by
    refine ⟨v, p, [.ty n1, .ty n2], .type t, [.type n1, .type n2], b, rfl, upd_same, .cons (.ty n1) (.cons (.ty n2) .nil), ?_, ?_, q _ _ _ (g1.trans (Gr.new g1.uh hp)) (.bl b)⟩
    · exact ty_of (C := C) (U := U1) (g1.uh.trans (same_upd hp)) r1 ht
    · refine kitAny_cons (kit_ty h1) (fun e => kitAny_cons (kit_ty h2) (fun e2 => ?_) fun e2 => ?_) fun e => ?_
      · rw [kitAny_nil, ← hb, e, e2]; rfl
      · rw [← hb, e2]; cases b1 <;> rfl
      · rw [← hb, e]; rfl⟩
theorem ev_abs (h : Ev C ta ρ (iD i)) : Ev C (tCB (fun xs H Q => ∃ i, xs = [V.int i] ∧ Q (.int (if i < 0 then -i else i)) H) (tCons ta tNil)) ρ (iD (if i < 0 then -i else i)) := fun σ U H L S Q q =>
  h σ U H L S _ fun v U1 H1 g1 r1 => by
    cases Td.toInt r1
    exact ⟨i, rfl, q _ U1 H1 g1 (.int _)⟩
theorem ev_int1 (h : Ev C ta ρ (iD i)) : Ev C (tCB (fun xs H Q => (∃ i, xs = [V.int i] ∧ Q (.int i) H) ∨ ∃ k, xs = [V.bl k] ∧ Q (.int (if k then 1 else 0)) H) (tCons ta tNil)) ρ (iD i) := fun σ U H L S Q q =>
  h σ U H L S _ fun v U1 H1 g1 r1 => by
    cases Td.toInt r1
    exact .inl ⟨i, rfl, q _ U1 H1 g1 (.int _)⟩
theorem ev_intB {b : Bool} (h : Ev C ta ρ (bD b)) : Ev C (tCB (fun xs H Q => (∃ i, xs = [V.int i] ∧ Q (.int i) H) ∨ ∃ k, xs = [V.bl k] ∧ Q (.int (if k then 1 else 0)) H) (tCons ta tNil)) ρ (iD (if b then 1 else 0)) := fun σ U H L S Q q =>
  h σ U H L S _ fun v U1 H1 g1 r1 => by
    cases Td.toBl r1
    exact .inr ⟨b, rfl, q _ U1 H1 g1 (.int _)⟩
theorem ev_min2 (h : Ev C ta ρ (iD i)) (h2 : Ev C tb ρ (iD j)) : Ev C (tCB (fun xs H Q => ∃ i j, xs = [V.int i, V.int j] ∧ Q (.int (if j < i then j else i)) H) (tCons ta (tCons tb tNil))) ρ (iD (if j < i then j else i)) := fun σ U H L S Q q =>
  h σ U H L S _ fun v U1 H1 g1 r1 => h2 σ U1 H1 (L.mono g1.uu) g1.uh _ fun v2 U2 H2 g2 r2 => by
    cases Td.toInt r1
    cases Td.toInt r2
    exact ⟨i, j, rfl, q _ U2 H2 (g1.trans g2) (.int _)⟩
end
section
variable {X : Cx} {k : Nat} {A : Around}
theorem hu64 {k : Nat} (hr : Room k A) : A.units + 64 < cLine := hr.units
theorem hu65 {k : Nat} (hr : Room k A) : A.units + 65 < cLine := by have := hr.un; omega
end
/-! ### statements, something behind -/
section
variable {C : Addr} {K : PySem.W.Frag} {ρ : Ro} {te ta tb : TE} {tt : TT} {wi : TI} {g : TG} {js : List Nat} {α : Type} {D : Ends} {U H : Hp} {σ : L2.St} {d : DV} {tu tw tz ts : TS} {i : Nat} {c : PyData} {ds : List PyData}
theorem q_asg (L : Lo C U σ ρ) (S : Same U H) (h : Ev C te ρ d) (k : ∀ σ' U' H', Gr [] U H U' H' → Lo C U' σ' (ρ.set i (some d)) → tz D σ' H') : tSeq (tAsg te (gName i)) tz D σ H := s_asg (D := { D with nx := tz D }) L S h k
theorem q_asgP {P : DV → Prop} (L : Lo C U σ ρ) (S : Same U H) (h : EvP C te ρ P) (k : ∀ d σ' U' H', P d → Gr [] U H U' H' → Lo C U' σ' (ρ.set i (some d)) → tz D σ' H') : tSeq (tAsg te (gName i)) tz D σ H := s_asgP (D := { D with nx := tz D }) L S h k
theorem q_asgN (L : Lo C U σ ρ) (S : Same U H) (h : EvN C te ρ ds) (k : ∀ p σ' U' H', Gr [] U H U' H' → H p = none → ML U' H' p ds → Lo C U' σ' (ρ.set i (some (.adr p))) → tz D σ' H') : tSeq (tAsg te (gName i)) tz D σ H := s_asgN (D := { D with nx := tz D }) L S h k
theorem q_asgG {ρ' : Ro} (L : Lo C U σ ρ) (S : Same U H) (h : Ev C te ρ d) (hg : EvG C g js d ρ ρ') (k : ∀ σ' U' H', Gr [] U H U' H' → Lo C U' σ' ρ' → tz D σ' H') : tSeq (tAsg te g) tz D σ H := s_asgG (D := { D with nx := tz D }) L S h hg k
theorem q_drop (L : Lo C U σ ρ) (S : Same U H) (h : Ev C te ρ d) (k : ∀ U' H', Gr [] U H U' H' → Lo C U' σ ρ → tz D σ H') : tSeq (tDrop te) tz D σ H := s_drop (D := { D with nx := tz D }) L S h k
/-- an if without else -/
theorem q_when {b : Bool} (L : Lo C U σ ρ) (S : Same U H) (h : EvT C tt ρ b) (h1 : b = true → ∀ U' H', Gr [] U H U' H' → Lo C U' σ ρ → tu { D with nx := tz D } σ H') (h2 : b = false → ∀ U' H', Gr [] U H U' H' → Lo C U' σ ρ → tz D σ H') : tSeq (tIfS tt tu tNext) tz D σ H :=
  s_if (D := { D with nx := tz D }) L S h h1 h2
/-- an if without else whose test fails -/
theorem q_skip (L : Lo C U σ ρ) (S : Same U H) (h : EvT C tt ρ false) (h2 : ∀ U' H', Gr [] U H U' H' → Lo C U' σ ρ → tz D σ H') : tSeq (tIfS tt tu tNext) tz D σ H := q_when L S h (fun e => nomatch e) fun _ => h2
theorem s_when {b : Bool} (L : Lo C U σ ρ) (S : Same U H) (h : EvT C tt ρ b) (h1 : b = true → ∀ U' H', Gr [] U H U' H' → Lo C U' σ ρ → tu D σ H') (h2 : b = false → ∀ U' H', Gr [] U H U' H' → Lo C U' σ ρ → D.nx σ H') : tIfS tt tu tNext D σ H := s_if L S h h1 h2
theorem s_skip (L : Lo C U σ ρ) (S : Same U H) (h : EvT C tt ρ false) (h2 : ∀ U' H', Gr [] U H U' H' → Lo C U' σ ρ → D.nx σ H') : tIfS tt tu tNext D σ H := s_if L S h (fun e => nomatch e) fun _ => h2
theorem q_app {p : Addr} (L : Lo C U σ ρ) (S : Same U H) (ha : Ev C ta ρ (.adr p)) (he : Ev C te ρ (.d c)) (m : ML U H p ds) (hz : ds.length < 100000) (k : ∀ U' H', Gr [p] U H U' H' → ML U' H' p (ds ++ [c]) → Lo C U' σ ρ → tz D σ H') :
    tSeq (tDrop (tBM K "list" rAppend ta (tCons te tNil))) tz D σ H := s_app (D := { D with nx := tz D }) L S ha he m hz k
theorem q_setL {p : Addr} {z : Int} {j : Nat} {tv to ti : TE} (L : Lo C U σ ρ) (S : Same U H) (hv : Ev C tv ρ (.d c)) (ho : Ev C to ρ (.adr p)) (hi : Ev C ti ρ (iD z)) (m : ML U H p ds) (hj : ixN ds.length z = some j)
    (k : ∀ U' H', Gr [p] U H U' H' → ML U' H' p (ds.set j c) → Lo C U' σ ρ → tz D σ H') : tSeq (tAsg tv (gSub to ti rSetL)) tz D σ H := s_setL (D := { D with nx := tz D }) L S hv ho hi m hj k
theorem q_for (l : List α) (enc : α → DV) (ρs : Nat → Ro) (R : Nat → Hp → Hp → Prop) (L : Lo C U σ ρ) (S : Same U H) (hi : EvI C wi ρ (l.map enc)) (h0 : Sub (ρs 0) ρ) (r0 : ∀ U1 H1, Gr [] U H U1 H1 → R 0 U1 H1)
    (hs : ∀ i (a : α) Ub U0 H0 U1 H1, l[i]? = some a → R i U0 H0 → Same U Ub → Same Ub U1 → Gr [] U0 H0 U1 H1 → ∃ js ρ', EvG C g js (enc a) (ρs i) ρ' ∧ ∀ σ2, Lo C U1 σ2 ρ' →
      tu { D with nx := Nxt C Ub (ρs (i + 1)) (R (i + 1)), ct := Nxt C Ub (ρs (i + 1)) (R (i + 1)), bk := tz D } σ2 H1)
    (hd : ∀ U1 H1 σ1, Lo C U1 σ1 (ρs l.length) → Same U U1 → Same U1 H1 → R l.length U1 H1 → tz D σ1 H1) : tSeq (tFor wi g tu) tz D σ H := s_for (D := { D with nx := tz D }) l enc ρs R L S hi h0 r0 hs hd
theorem nx_of {f bk ct : L2.St → Hp → Prop} {rt : VK} (h : f σ H) : Ends.nx ⟨f, rt, bk, ct⟩ σ H := h
/-- a loop over n turns -/
theorem rng_at {n i a : Nat} (h : (List.range n)[i]? = some a) : i < n ∧ a = i := by
  obtain ⟨z1, z2⟩ := List.getElem?_eq_some_iff.mp h
  rw [List.length_range] at z1
  rw [List.getElem_range] at z2
  exact ⟨z1, z2.symm⟩
end
section
variable {C : Addr} {K : PySem.W.Frag} {ρ : Ro} {te ta : TE} {α : Type}
theorem evi_listM (f : α → PyData) (l : List α) (h : Ev C te ρ (.d (.list (l.map f)))) : EvI C (iList K te) ρ (l.map fun a => DV.d (f a)) := by
  have e := evi_list (K := K) h
  rw [List.map_map] at e
  exact e
theorem evi_tupM (f : α → PyData) (l : List α) (h : Ev C te ρ (.d (.tuple (l.map f)))) : EvI C (iTup K te) ρ (l.map fun a => DV.d (f a)) := by
  have e := evi_tup (K := K) h
  rw [List.map_map] at e
  exact e
theorem evi_rngN {n : Nat} {t : TA} (h : EvA C t ρ [iD n]) (h1 : n ≤ 100000) : EvI C (iRng1 t) ρ ((List.range n).map fun (j : Nat) => iD j) := by
  have e := evi_rng1 (i := (n : Int)) h (by omega) (by omega)
  have e2 : ((List.range ((n : Int).toNat)).map fun j => iD (0 + (j : Nat))) = (List.range n).map fun (j : Nat) => iD j := List.map_congr_left fun j _ => by rw [Int.zero_add]
  rw [e2] at e
  exact e
theorem rc_lenLM {f : α → PyData} {l : List α} : RC C (fun xs H Q => ∃ p ys, xs = [V.ref p] ∧ (SqL K H p ys ∨ SqT K H p ys) ∧ Q (.int ys.length) H) [.d (.list (l.map f))] (iD l.length) := by
  have h := rc_lenL (C := C) (K := K) (ds := l.map f)
  rw [List.length_map] at h
  exact h
theorem rc_lenTM {f : α → PyData} {l : List α} : RC C (fun xs H Q => ∃ p ys, xs = [V.ref p] ∧ (SqL K H p ys ∨ SqT K H p ys) ∧ Q (.int ys.length) H) [.d (.tuple (l.map f))] (iD l.length) := by
  have h := rc_lenT (C := C) (K := K) (ds := l.map f)
  rw [List.length_map] at h
  exact h
theorem at_map {f : α → PyData} {l : List α} {j : Nat} {x : α} (h : l[j]? = some x) : atI (l.map f) (j : Int) = some (f x) := by
  have hl : j < l.length := (List.getElem?_eq_some_iff.mp h).1
  unfold atI ixN
  rw [if_pos (by omega), if_pos (by rw [List.length_map]; omega)]
  show (l.map f)[(j : Int).toNat]? = some (f x)
  rw [Int.toNat_natCast, List.getElem?_map, h]
  rfl
theorem at_map_last {f : α → PyData} {l : List α} {x : α} (h : l[l.length - 1]? = some x) : atI (l.map f) (-1) = some (f x) := by
  have hl : l.length - 1 < l.length := (List.getElem?_eq_some_iff.mp h).1
  unfold atI ixN
  rw [if_neg (by omega), if_pos (by rw [List.length_map]; omega)]
  show (l.map f)[((-1 : Int) + ((l.map f).length : Int)).toNat]? = some (f x)
  have e : ((-1 : Int) + ((l.map f).length : Int)).toNat = l.length - 1 := by rw [List.length_map]; omega
  rw [e, List.getElem?_map, h]
  rfl
theorem getD_at {l : List α} {j : Nat} {d : α} (h : j < l.length) : l[j]? = some (l.getD j d) := by
  rw [List.getD_eq_getElem?_getD, List.getElem?_eq_getElem h]
  rfl
theorem ru_neg {i : Int} : RU C (rU fun i => V.int (-i)) (iD i) (iD (-i)) := fun U H x S rx Q q => by
  cases Td.toInt rx
  exact ⟨i, rfl, q _ U H (.refl S) (.int _)⟩
end
/-! ### private lists told -/
theorem Lo.adr {C : Addr} {U : Hp} {σ : L2.St} {ρ : Ro} {i : Nat} {p : Addr} {d : DV} (L : Lo C U σ ρ) (h : ρ[i]? = some (some (.adr p))) (r : Rp C U (.ref p) d) : Lo C U σ (ρ.set i (some d)) := by
  refine ⟨by rw [List.length_set]; exact L.len, fun j e q => ?_⟩
  by_cases hj : i = j
  · subst hj
    have hl : i < ρ.length := (List.getElem?_eq_some_iff.mp h).1
    rw [List.getElem?_set_self hl] at q
    have q' := Option.some.inj (Option.some.inj q)
    subst q'
    obtain ⟨v, h1, h2⟩ := L.get i _ h
    have e : v = .ref p := h2
    subst e
    exact ⟨_, h1, r⟩
  · rw [List.getElem?_set_ne hj] at q
    exact L.get j e q
theorem ML.tell {C : Addr} {M : List Addr} {U0 H0 U H : Hp} {σ : L2.St} {ρ : Ro} {p : Addr} {ds : List PyData} (i : Nat) (S0 : Same U0 H0) (g : Gr M U0 H0 U H) (hp : H0 p = none) (m : ML U H p ds) (L : Lo C U σ ρ) (h : ρ[i]? = some (some (.adr p))) :
    ∃ U', Gr M U0 H0 U' H ∧ Same U U' ∧ Lo C U' σ (ρ.set i (some (.d (.list ds)))) ∧ ∀ b, b ≠ p → U' b = U b := by
  obtain ⟨h1, vs, h2, t⟩ := m
  exact ⟨upd U p (.lst vs), g.tell S0 hp h2 h1, same_upd h1, (L.mono (same_upd h1)).adr h (Td.lst upd_same (t.mono (same_upd h1))), fun b hb => upd_ne hb⟩
theorem take_succ_at {α : Type} {l : List α} {i : Nat} {a : α} (h : l[i]? = some a) : l.take (i + 1) = l.take i ++ [a] := by
  rw [List.take_add_one, h]
  rfl
/-! ### the rules with the written part named -/
section
variable {X : Cx} {K : PySem.W.Frag} {a b e o tg iter : Expr} {es : List Expr} {ta tb te to : TE} {t : TA} {pos apos : Pos}
theorem ix_listK (h : X.K = K := by rfl) : IxR X (rIxL K) := by subst h; exact ix_list
theorem ix_tupK (h : X.K = K := by rfl) : IxR X (rIxT K) := by subst h; exact ix_tup
theorem len_K (h : X.K = K := by rfl) : CallR X (.builtin "len") (fun xs H Q => ∃ p ys, xs = [V.ref p] ∧ (SqL K H p ys ∨ SqT K H p ys) ∧ Q (.int ys.length) H) := by subst h; exact call_len_seq
theorem list_K (h : X.K = K := by rfl) : CallR X (.type "list") (fun xs H Q => ∃ p ys, xs = [V.ref p] ∧ (SqL K H p ys ∨ SqT K H p ys) ∧ ∀ l, H l = none → Q (.ref l) (upd H l (.lst ys))) := by subst h; exact call_list_of
theorem tuple_K (h : X.K = K := by rfl) : CallR X (.type "tuple") (fun xs H Q => ∃ p ys, xs = [V.ref p] ∧ ((SqL K H p ys ∧ ∀ l, H l = none → Q (.ref l) (upd H l (.tup ys))) ∨ (SqT K H p ys ∧ Q (.ref p) H))) := by subst h; exact call_tuple_of
theorem fld_K {f : Str} (h : X.K = K) (ho : PE X o to) (hb : attributeBase o f X.env (eval o X.env) = eval o X.env := by rfl) : PE X (.Attribute o f pos) (tFld K to f) := by subst h; exact pe_fld ho hb
theorem eqD_K (hu : X.A.units + 64 < cLine) (h : X.K = K := by rfl) : OpR X (compareOp .Eq) (rEqD K) := by subst h; exact op_eqD hu
theorem neD_K (hu : X.A.units + 64 < cLine) (h : X.K = K := by rfl) : OpR X (compareOp .NotEq) (rNeD K) := by subst h; exact op_neD hu
theorem notInD_K (hu : X.A.units + 65 < cLine) (h : X.K = K := by rfl) : OpR X (compareOp .NotIn) (rNotInD K) := by subst h; exact op_notInD hu
theorem catT_K (h : X.K = K := by rfl) : OpR X (binaryOp .Add) (rCatA K) := by subst h; exact op_catA
theorem slL_K (h : X.K = K := by rfl) : SlR X (rSlL K) := by subst h; exact sl_list
theorem slT_K (h : X.K = K := by rfl) : SlR X (rSlA K) := by subst h; exact sl_tupA
theorem sum_K (hc : X.calm = true) (h : X.K = K := by rfl) : CallR X (.builtin "sum") (rSum K) := by subst h; exact cr_sum hc
theorem max_K (hc : X.calm = true) (h : X.K = K := by rfl) : CallR X (.builtin "max") (rMax K) := by subst h; exact cr_max hc
theorem all_K (hc : X.calm = true) (h : X.K = K := by rfl) : CallR X (.builtin "all") (rAll K) := by subst h; exact cr_all hc
theorem isi_K (h : X.K = K := by rfl) : CallR X (.builtin "isinstance") (rIsi K) := by subst h; exact call_isi
theorem isiT_K (h : X.K = K := by rfl) : CallR X (.builtin "isinstance") (rIsiT K) := by subst h; exact call_isiT
theorem pi_listK (h : X.K = K) (he : PE X e te) : PI X tg e (iList K te) := by subst h; exact pi_list he
theorem pi_tupK (h : X.K = K) (he : PE X e te) : PI X tg e (iTup K te) := by subst h; exact pi_tup he
end
/-- naturals as data -/
abbrev nI (x : Nat) : PyData := .int (x : Int)
def nL (l : List Nat) : PyData := .list (l.map nI)
def nT (l : List Nat) : PyData := .tuple (l.map nI)
end Kx
end
section
set_option Elab.async false
set_option linter.all false
set_option maxRecDepth 100000
set_option maxHeartbeats 4000000
/-! Rules of our own: o[i] op= e of a list; sorted of data in a list or a tuple. -/
namespace Kx
open PySem PySem.Spec L2
open PyProof.Rows (IsTup seqObj sortedHeap sortedHeap_at sortedHeap_old sortedAll sortedAll_at sortedAll_old get?_update_seq size_push')
section
variable {X : Cx}
/-- an item of a tracked list at a place from 0 on -/
def rGetL : V → V → Hp → VK → Prop := fun o i H Q => ∃ p xs z x, o = .ref p ∧ i = .int z ∧ H p = some (.lst xs) ∧ 0 ≤ z ∧ xs[z.toNat]? = some x ∧ Q x H
theorem get_list : PGet X rGetL := by
  intro pins s σ H o i ov iv Q J ro ri h
  obtain ⟨p, xs, z, x, rfl, rfl, hp, h0, hx, q⟩ := h
  obtain rfl : ov = Value.ref p := ro
  obtain ⟨tk, rfl⟩ := ri
  obtain ⟨its, rv, pl, hz⟩ := J.list (SqL.of hp)
  obtain ⟨u, hu, ru⟩ := rv.get hx
  have hlt : z.toNat < xs.length := (List.getElem?_eq_some_iff.mp hx).1
  have h63 : xs.length < 2 ^ 63 := Nat.lt_of_le_of_lt hz (by rw [sizeLine_eq]; decide)
  exact wpAny_getItem_list pl.isList h0 (by omega) (by simpa using hu) ⟨x, H, J, ru, q⟩
theorem ps_augL {o i e : Expr} {to ti te : TE} {tip : TIp} {op : Operator} {tpos pos : Pos} (ho : PE X o to) (hi : PE X i ti) (he : PE X e te) (hp : PIp X op tip)
    (ha : ∀ ov iv new, augStore i ov iv new = (do holding [new, ov, iv] (setItem ov iv new); release [new, ov, iv] []; pure .next) := by intros; rfl) : PS X (.AugAssign (.Subscript o i tpos) op e pos) (tAugS to ti te rGetL tip rSetL) :=
  ps_augS ho hi get_list he hp set_list ha
end
section
variable {C : Addr} {K : PySem.W.Frag} {ρ : Ro} {te to ti : TE} {D : Ends} {U H : Hp} {σ : L2.St} {ds : List PyData} {tz : TS}
/-- xs[z] op= e, xs private -/
theorem s_augL {p : Addr} {f : Int → Int → Int} {j : Nat} {z a b : Int} (L : Lo C U σ ρ) (S : Same U H) (ho : Ev C to ρ (.adr p)) (hi : Ev C ti ρ (iD z)) (he : Ev C te ρ (iD b)) (m : ML U H p ds) (hz : z = (j : Int)) (hj : ds[j]? = some (.int a))
    (k : ∀ U' H', Gr [p] U H U' H' → ML U' H' p (ds.set j (.int (f a b))) → Lo C U' σ ρ → D.nx σ H') : tAugS to ti te rGetL (ipI f) rSetL D σ H := by
  subst hz
  have hlt : j < ds.length := (List.getElem?_eq_some_iff.mp hj).1
  refine ho σ U H L S _ fun v U1 H1 g1 r1 => ?_
  obtain rfl : v = .ref p := r1
  refine hi σ U1 H1 (L.mono g1.uu) g1.uh _ fun w U2 H2 g2 r2 => ?_
  cases Td.toInt r2
  obtain ⟨n2, vs2, h2, t2⟩ := m.step (g1.trans g2) (by simp)
  obtain ⟨x, hx, rx⟩ := t2.get hj
  cases Td.toInt rx
  refine ⟨p, vs2, (j : Int), .int a, rfl, rfl, h2, by omega, by rw [Int.toNat_natCast]; exact hx, ?_⟩
  refine he σ U2 H2 (L.mono (g1.trans g2).uu) g2.uh _ fun y U3 H3 g3 r3 => ?_
  cases Td.toInt r3
  obtain ⟨n3, vs3, h3, t3⟩ := m.step ((g1.trans g2).trans g3) (by simp)
  refine ⟨a, b, rfl, rfl, p, vs3, (j : Int), j, rfl, rfl, h3, ?_, k U3 _ (((g1.trans g2).trans g3).any.trans (Gr.mut g3.uh n3 (by simp))) ⟨n3, _, upd_same, t3.set j (.int _)⟩ (L.mono ((g1.trans g2).trans g3).uu)⟩
  unfold ixN
  rw [if_pos (by omega), if_pos (by rw [t3.length]; omega), Int.toNat_natCast]
theorem q_augL {p : Addr} {f : Int → Int → Int} {j : Nat} {z a b : Int} (L : Lo C U σ ρ) (S : Same U H) (ho : Ev C to ρ (.adr p)) (hi : Ev C ti ρ (iD z)) (he : Ev C te ρ (iD b)) (m : ML U H p ds) (hz : z = (j : Int)) (hj : ds[j]? = some (.int a))
    (k : ∀ U' H', Gr [p] U H U' H' → ML U' H' p (ds.set j (.int (f a b))) → Lo C U' σ ρ → tz D σ H') : tSeq (tAugS to ti te rGetL (ipI f) rSetL) tz D σ H := s_augL (D := { D with nx := tz D }) L S ho hi he m hz hj k
end

/-! ### sorted -/
section
variable {prog : Program} {w : World} {A : Around} {E : Value → Shared → Prop} {s : Shared}
/-- the items of a tuple gathered -/
theorem gather_tuple {t : Addr} {vs : List Value} {Q : List Value → Shared → Prop} (ht : IsTup s.heap t vs.toArray) (hz : vs.length ≤ sizeLine)
    (h : Q vs { s with heap := (s.heap.push (seqObj "list" #[] 0)).update s.heap.objs.size (Obj.mapSeq (· ++ vs.toArray)) }) : wpAny (model prog w) A (collect (.ref t)) Q E s := by
  obtain ⟨ot, e1, e2, n, e3⟩ := ht
  have e1' : (s.heap.push (seqObj "list" #[] 0)).get? t = some ot := Heap.get?_push_of_some _ e1
  have eN : (s.heap.push (seqObj "list" #[] 0)).get? s.heap.objs.size = some (seqObj "list" #[] 0) := Heap.get?_push_size _ rfl
  unfold collect
  refine wpAny_bind (wpAny_runValue (codeAny_builtin PyProof.Rows.entry_proto_collect' ?_))
  show wpAny _ _ (do again (.builtin "list.__iadd__" ⟨[← newList [], .ref t], []⟩)) _ _ s
  refine wpAny_bind (wpAny_newList (wpAny_pure ⟨Code.quiet_builtin _ (by decide +kernel), codeAny_builtin PyProof.Rows.entry_list_iadd' ?_⟩))
  show wpAny _ _ (Builtin.List.listExtendWith (.ref s.heap.objs.size) (.ref t) (.ref s.heap.objs.size)) _ _ { s with heap := s.heap.push (seqObj "list" #[] 0) }
  unfold Builtin.List.listExtendWith
  refine wpAny_bind (wpAny_typeOf (T := "tuple") ⟨ot, e1', e2⟩ ?_)
  rw [if_pos (by simp)]
  refine wpAny_bind (PyProof.Rows.listItems_at e1' e3 (wpAny_bind (PyProof.Rows.listItems_at (xs := #[]) (n := 0) eN rfl ?_)))
  rw [if_neg (by simp)]
  refine wpAny_bind (PyProof.Rows.listUpdate_at (xs := #[]) (n := 0) eN rfl (wpAny_pure ?_) (Nat.zero_le _) ?_)
  · show wpAny (model prog w) A (do
      let o ← load s.heap.objs.size
      match o.data with
      | .seq xs _ => pure xs.toList
      | _ => unsupported "internal:collect") Q E { s with heap := (s.heap.push (seqObj "list" #[] 0)).update s.heap.objs.size (Obj.mapSeq (· ++ vs.toArray)) }
    refine wpAny_bind (wpAny_load (get?_update_seq eN _) ?_)
    show wpAny _ _ (pure ((#[] : Array Value) ++ vs.toArray).toList) Q E _
    have e : ((#[] : Array Value) ++ vs.toArray).toList = vs := by simp
    rw [e]
    exact wpAny_pure h
  · simp only [Array.size_append, List.size_toArray, List.length_nil]
    omega
/-! data without lists -/
mutual
def flatD : PyData → Bool
  | .list _ => false
  | .dict _ => false
  | .tuple ds => flatAll ds
  | _ => true
def flatAll : List PyData → Bool
  | [] => true
  | d :: ds => flatD d && flatAll ds
end
mutual
theorem reads_flat {h : Heap} : ∀ (d : PyData) (v : Value) (as : List Addr), flatD d = true → Reads h v d as → as = []
  | .none, _, _, _, r => by cases r; rfl
  | .bool _, _, _, _, r => by cases r; rfl
  | .int _, _, _, _, r => by cases r; rfl
  | .str _, _, _, _, r => by cases r; rfl
  | .list _, _, _, f, _ => by simp [flatD] at f
  | .dict _, _, _, f, _ => by simp [flatD] at f
  | .tuple ds, _, _, f, r => by
    cases r with
    | tuple h1 h2 h3 h4 => exact reads_flatAll ds _ _ (by simpa [flatD] using f) h4
theorem reads_flatAll {h : Heap} : ∀ (ds : List PyData) (vs : List Value) (as : List Addr), flatAll ds = true → ReadsAll h vs ds as → as = []
  | [], _, _, _, r => by cases r; rfl
  | d :: ds, _, _, f, r => by
    cases r with
    | cons h1 h2 =>
      have f' : flatD d = true ∧ flatAll ds = true := by simpa [flatAll] using f
      rw [reads_flat d _ _ f'.1 h1, reads_flatAll ds _ _ f'.2 h2]
      rfl
end
/-- sorted(v), by what its items are -/
theorem sorted_src {β : Type} {R : Value → β → Prop} {enc : β → PyData} {v : Value} {Q : Value → Shared → Prop}
    (h : wpAny (model prog w) A.in1 (collect v) (fun vs s1 => ∃ bs : List β, vs.length ≤ sizeLine ∧ PySem.W.EachIs R vs bs ∧ PySem.W.EachIs (fun u b => ∃ as, Reads s1.heap u (enc b) as) vs bs ∧ PySem.W.AllAlike (bs.map enc) ∧ PySem.W.Sortable (bs.map enc) ∧ (∀ b ∈ bs, flatD (enc b) = true) ∧
      (∀ b ∈ bs, A.units + 3 + (enc b).depth < cLine) ∧ ∀ out : List Value, out.length = bs.length → PySem.W.EachIs R out (bs.mergeSort (PySem.W.dataLe false enc)) →
        Q (.ref s1.heap.objs.size) { s1 with heap := sortedHeap (s1.heap.push (seqObj "list" vs.toArray 0)) s1.heap.objs.size vs out.toArray }) E s) : wpAny (model prog w) A (call (.builtin "sorted") [v]) Q E s := by
  refine Calls.call_function_entry PyProof.Rows.kind_sorted PyProof.Rows.plain_sorted PyProof.Rows.entry_sorted (PyProof.Rows.args_sorted1 _) ?_
  unfold Builtin.«sorted»
  refine wpAny_bind (m := checkCount "sorted" 1 1 _) (wpAny_pure ?_)
  refine wpAny_bind (thn h fun vs s1 ⟨bs, hz, e, er, hal, hk, hf, hu, q⟩ => ?_)
  have hbl : bs.length ≤ sizeLine := by rw [← e.length]; exact hz
  refine wpAny_bind (wpAny_newList ?_ (by omega))
  have eN : (s1.heap.push (seqObj "list" vs.toArray 0)).get? s1.heap.objs.size = some (seqObj "list" vs.toArray 0) := Heap.get?_push_size _ rfl
  have er' : PySem.W.EachIs (fun u b => ∃ as, Reads (s1.heap.push (seqObj "list" vs.toArray 0)) u (enc b) as ∧ s1.heap.objs.size ∉ as) vs bs := (PySem.W.each_mem er).mono fun u b ⟨⟨as, r⟩, hb⟩ => by
    have e0 : as = [] := reads_flat _ _ _ (hf b hb) r
    subst e0
    exact ⟨[], PyProof.Rows.Reads.keeps (fun _ _ q => Heap.get?_push_of_some _ q) r, by simp⟩
  refine wpAny_bind (wpAny_holding (PySem.W.list_sort_data (s := { s1 with heap := s1.heap.push (seqObj "list" vs.toArray 0) }) eN e er' hal hk hbl (fun b hb => ?_) fun out h1 h2 => ?_))
  · have := hu b hb
    show A.units + 1 + 1 + (enc b).depth < cLine
    omega
  · exact wpAny_pure ⟨_, rfl, q out h1 h2⟩
end
/-- data fit to be sorted -/
structure SortOk (ds : List PyData) : Prop where
  al : PySem.W.AllAlike ds
  so : PySem.W.Sortable ds
  fl : ∀ d ∈ ds, flatD d = true
  dp : ∀ d ∈ ds, d.depth ≤ 60
def sortD (ds : List PyData) : List PyData := ds.mergeSort (PySem.W.dataLe false id)
abbrev zipLe : V × PyData → V × PyData → Bool := PySem.W.dataLe false (·.2)
theorem sortD_zip {xs : List V} {ds : List PyData} (h : xs.length = ds.length) : ((xs.zip ds).mergeSort zipLe).map (·.2) = sortD ds := by
  unfold sortD
  have e := List.map_mergeSort (f := fun p : V × PyData => p.2) (r := zipLe) (s := PySem.W.dataLe false id) (l := xs.zip ds) fun a _ b _ => rfl
  rw [e, List.map_snd_zip (by omega)]
theorem sort_td {U : Hp} {xs : List V} {ds : List PyData} (t : TdAll U xs ds) : TdAll U (((xs.zip ds).mergeSort zipLe).map (·.1)) (sortD ds) := by
  rw [← sortD_zip t.length]
  have hz : ∀ {xs : List V} {ds : List PyData}, TdAll U xs ds → ∀ p ∈ xs.zip ds, Td U p.1 p.2 := by
    intro xs
    induction xs with
    | nil => intro ds _ p hp; simp at hp
    | cons x xs ih =>
      intro ds t p hp
      cases t with
      | cons a r =>
        rw [List.zip_cons_cons] at hp
        rcases List.mem_cons.mp hp with rfl | hp
        · exact a
        · exact ih r p hp
  have all : ∀ p ∈ (xs.zip ds).mergeSort zipLe, Td U p.1 p.2 := fun p hp => hz t p ((List.mergeSort_perm _ _).mem_iff.mp hp)
  generalize (xs.zip ds).mergeSort zipLe = l at all
  induction l with
  | nil => exact .nil
  | cons p l ih => exact .cons (all p List.mem_cons_self) (ih fun q hq => all q (List.mem_cons_of_mem _ hq))
/-- sorted(xs) of a list or a tuple of data -/
def rSortX (K : PySem.W.Frag) : List V → Hp → VK → Prop := fun vs H Q => ∃ a xs ds, vs = [V.ref a] ∧ (H a = some (.lst xs) ∨ H a = some (.tup xs)) ∧ DpAll K H xs ds ∧ SortOk ds ∧
  ∀ p, H p = none → Q (.ref p) (upd H p (.lst (((xs.zip ds).mergeSort zipLe).map (·.1))))
theorem each_pair {K : PySem.W.Frag} {H : Hp} : ∀ {xs : List V} {ds : List PyData} {us : List Value}, DpAll K H xs ds → Vals xs us → PySem.W.EachIs (fun u (b : V × PyData) => RelV b.1 u) us (xs.zip ds)
  | _, _, _, .nil, .nil => .nil
  | _, _, _, .cons _ t, .cons r t' => .cons r (each_pair t t')
theorem each_reads {X : Cx} {pins : List (Addr × Obj)} {σ : L2.St} {H : Hp} {s : Shared} (J : Inv X pins σ H s) : ∀ {xs : List V} {ds : List PyData} {us : List Value}, DpAll X.K H xs ds → Vals xs us → PySem.W.EachIs (fun u (b : V × PyData) => ∃ as, Reads s.heap u b.2 as) us (xs.zip ds)
  | _, _, _, .nil, .nil => .nil
  | _, _, _, .cons h t, .cons r t' => .cons (Dp.reads J _ _ _ h r) (each_reads J t t')
theorem vals_of_each : ∀ {us : List Value} {bs : List (V × PyData)}, PySem.W.EachIs (fun u (b : V × PyData) => RelV b.1 u) us bs → Vals (bs.map (·.1)) us
  | _, _, .nil => .nil
  | _, _, .cons h t => .cons h (vals_of_each t)
theorem each_map2 {R : Value → V × PyData → Prop} {S : Value → V × PyData → Prop} (h : ∀ u b, R u b → S u b) : ∀ {us : List Value} {bs : List (V × PyData)}, PySem.W.EachIs R us bs → PySem.W.EachIs S us bs
  | _, _, .nil => .nil
  | _, _, .cons a t => .cons (h _ _ a) (each_map2 h t)
theorem dpall_len {K : PySem.W.Frag} {H : Hp} : ∀ {xs : List V} {ds : List PyData}, DpAll K H xs ds → xs.length = ds.length
  | _, _, .nil => rfl
  | _, _, .cons _ t => congrArg Nat.succ (dpall_len t)
theorem call_sortX {X : Cx} {K : PySem.W.Frag} (hu : X.A.units + 65 < cLine) (hK : X.K = K := by rfl) : CallR X (.builtin "sorted") (rSortX K) := by
  subst hK
  intro pins s σ H vs us Q J rv h
  obtain ⟨a, xs, ds, rfl, hp, dp, so, q⟩ := h
  rw [Vals.ref1 rv]
  have hlen := dpall_len dp
  have hsnd : (xs.zip ds).map (·.2) = ds := List.map_snd_zip (by omega)
  have mem2 : ∀ b ∈ xs.zip ds, b.2 ∈ ds := fun b hb => by rw [← hsnd]; exact List.mem_map.mpr ⟨b, hb, rfl⟩
  -- what stands behind the gathering
  have fin : ∀ (its : List Value), Vals xs its → xs.length ≤ sizeLine → ∀ s1 : Shared, (∀ b o, s.heap.get? b = some o → s1.heap.get? b = some o) → s1 = { s with heap := s1.heap } →
      ∃ bs : List (V × PyData), its.length ≤ sizeLine ∧ PySem.W.EachIs (fun u (b : V × PyData) => RelV b.1 u) its bs ∧ PySem.W.EachIs (fun u (b : V × PyData) => ∃ as, Reads s1.heap u b.2 as) its bs ∧ PySem.W.AllAlike (bs.map (·.2)) ∧ PySem.W.Sortable (bs.map (·.2)) ∧ (∀ b ∈ bs, flatD b.2 = true) ∧
      (∀ b ∈ bs, X.A.units + 3 + b.2.depth < cLine) ∧ ∀ out : List Value, out.length = bs.length → PySem.W.EachIs (fun u (b : V × PyData) => RelV b.1 u) out (bs.mergeSort (PySem.W.dataLe false (·.2))) →
        EP X pins σ Q (.ref s1.heap.objs.size) { s1 with heap := sortedHeap (s1.heap.push (seqObj "list" its.toArray 0)) s1.heap.objs.size its out.toArray } := by
    intro its rits hz s1 hk hs1
    refine ⟨xs.zip ds, by rw [← rits.length]; exact hz, each_pair dp rits, each_map2 (fun u b ⟨as, r⟩ => ⟨as, PyProof.Rows.Reads.keeps hk r⟩) (each_reads J dp rits), by rw [hsnd]; exact so.al, by rw [hsnd]; exact so.so,
      fun b hb => so.fl _ (mem2 b hb), fun b hb => by have := so.dp _ (mem2 b hb); omega, fun out hl he => ?_⟩
    have eN : (s1.heap.push (seqObj "list" its.toArray 0)).get? s1.heap.objs.size = some (seqObj "list" its.toArray 0) := Heap.get?_push_size _ rfl
    obtain ⟨c, hc⟩ := sortedHeap_at (vs := its) (out := out.toArray) eN
    have J1 : Inv X pins σ H s1 := by rw [hs1]; exact J.kept (t' := s.toks) hk
    have hlo : (((xs.zip ds).mergeSort zipLe).map (·.1)).length ≤ sizeLine := by
      rw [List.length_map, List.length_mergeSort, List.length_zip]
      omega
    refine ⟨.ref s1.heap.objs.size, _, J1.laid (o := .lst (((xs.zip ds).mergeSort zipLe).map (·.1))) (t' := s1.toks) (fun b o e => ?_) (Nat.le_refl _) ⟨hlo, out, c, vals_of_each he, hc⟩, rfl, q _ (J1.hok.fresh (Nat.le_refl _))⟩
    have hlt := Heap.lt_size e
    rw [sortedHeap_old (Nat.ne_of_lt hlt) (by rw [size_push']; exact Nat.lt_succ_of_lt hlt)]
    exact Heap.get?_push_of_some _ e
  have upk : ∀ (its : List Value) b o, s.heap.get? b = some o → ((s.heap.push (seqObj "list" #[] 0)).update s.heap.objs.size (Obj.mapSeq (· ++ its.toArray))).get? b = some o := fun its b o e => by
    rw [Heap.get?_update_ne _ _ _ _ (Nat.ne_of_lt (Heap.lt_size e))]
    exact Heap.get?_push_of_some _ e
  rcases hp with hp | hp
  · obtain ⟨its, rits, pl, hz⟩ := J.list (SqL.of hp)
    exact sorted_src (PyProof.Rows.collect_list pl.isList (fin its rits hz _ (upk its) rfl) (by rw [← rits.length]; exact hz))
  · obtain ⟨its, rits, pl, hz⟩ := J.tuple (SqT.of hp)
    exact sorted_src (gather_tuple pl (by rw [← rits.length]; exact hz) (fin its rits hz _ (upk its) rfl))
theorem evn_sorted {C : Addr} {K : PySem.W.Frag} {ρ : Ro} {a : DV} {ds : List PyData} {t : TA} (h : EvA C t ρ [a]) (ha : a = .d (.list ds) ∨ a = .d (.tuple ds)) (so : SortOk ds) : EvN C (tCB (rSortX K) t) ρ (sortD ds) := fun σ U H L S Q q =>
  h σ U H L S _ fun vs U1 H1 g1 r1 => by
    cases r1 with
    | cons h t =>
      cases t
      rcases ha with rfl | rfl
      · obtain ⟨p, vs, rfl, hp, t⟩ := Td.toLst h
        exact ⟨p, vs, ds, rfl, .inl (g1.uh _ _ hp), t.dp g1.uh, so, fun l hl => q l _ U1 _ (g1.trans (Gr.priv g1.uh hl)) (g1.same.free hl) (up_none g1.uh hl) upd_same (sort_td t)⟩
      · obtain ⟨p, vs, rfl, hp, t⟩ := Td.toTup h
        exact ⟨p, vs, ds, rfl, .inr (g1.uh _ _ hp), t.dp g1.uh, so, fun l hl => q l _ U1 _ (g1.trans (Gr.priv g1.uh hl)) (g1.same.free hl) (up_none g1.uh hl) upd_same (sort_td t)⟩
/-! data of one shape -/
theorem so_ints (ns : List Int) : SortOk (ns.map PyData.int) := by
  refine ⟨PySem.W.AllAlike.of fun b b' => ?_, PySem.W.Sortable.others fun b => ⟨(fun z => by cases z), (fun xs z => by cases z)⟩, fun d hd => ?_, fun d hd => ?_⟩
  · simp [PySem.W.alike]
  · obtain ⟨n, _, rfl⟩ := List.mem_map.mp hd; rfl
  · obtain ⟨n, _, rfl⟩ := List.mem_map.mp hd; simp [PyData.depth]
theorem sortD_perm (ds : List PyData) : (sortD ds).Perm ds := List.mergeSort_perm _ _
end Kx
end
section
set_option Elab.async false
set_option linter.all false
set_option maxRecDepth 100000
set_option maxHeartbeats 4000000
/-! enumerate over a tuple. -/
namespace Kx
open PySem PySem.Spec L2
open PyProof.Rows
section
set_option maxHeartbeats 1000000 in
theorem enum_one {u : Value} {cell : Obj} {Pre : Heap → Prop} (B : Begins u cell Pre) :
    Meets (Builtin.«enumerate.__new__» ⟨[.type "enumerate", u], []⟩) (fun _ R z => Pre z.heap ∧
      R (.ok (.ret (.ref (z.heap.push cell).objs.size))) { z with heap := (z.heap.push cell).push { cls := .type "enumerate", data := .fields #[.none, .bool false, .ref z.heap.objs.size, rawInt 0, .none, .none] } }) :=
  .of_wp fun P W A R z hz => by
    obtain ⟨hh, gg, dd, kk, oo⟩ := z
    obtain ⟨hpre, hR⟩ := hz
    have sb := sub_enumerate
    have it1 : ∀ {A' : Around} {E Q : Value → Shared → Prop}, Q (.ref hh.objs.size) ⟨hh.push cell, gg, dd, kk, oo⟩ → wpAny (model P W) A' (pyIter u) Q E ⟨hh, gg, dd, kk, oo⟩ :=
      fun q => B.iter P W _ _ ⟨hh, gg, dd, kk, oo⟩ _ hpre q
    wp_walk using it1
    refine wpAny_stack_any fun _ => wpAny_pure ?_
    split
    · rename_i c _ _ _ _ _
      cases (c == Value.type "enumerate") <;> (wp_walk using it1; exact ⟨_, rfl, hR⟩)
    · wp_walk using it1
      exact ⟨_, rfl, hR⟩
variable {prog : Program} {w : World} {A : Around} {E : Value → Shared → Prop} {s : Shared}
theorem call_enum1 {u : Value} {cell : Obj} {Pre : Heap → Prop} {Q : Value → Shared → Prop} (B : Begins u cell Pre) (hpre : Pre s.heap)
    (k : ∀ h2, IsEnum h2 (s.heap.objs.size + 1) s.heap.objs.size 0 .none → h2.get? s.heap.objs.size = some cell → (∀ c x, s.heap.get? c = some x → h2.get? c = some x) → Q (.ref (s.heap.objs.size + 1)) { s with heap := h2 }) :
    wpAny (model prog w) A (call (.type "enumerate") [u]) Q E s := by
  refine callType_new F.called_enumerate (by decide) (F.typeCall_enumerate_1 _) (F.newCall_enumerate_1 _) (fun o => F.args_object_init_2 o _) F.entry_enumerate_new (enum_one B) ⟨hpre, ?_⟩
  have sz : (s.heap.push cell).objs.size = s.heap.objs.size + 1 := Heap.size_push ..
  show _ ∧ _
  rw [sz]
  have made : IsEnum ((s.heap.push cell).push { cls := .type "enumerate", data := .fields #[.none, .bool false, .ref s.heap.objs.size, rawInt 0, .none, .none] }) (s.heap.objs.size + 1) s.heap.objs.size 0 .none := by
    have z := Heap.get?_push_size (s.heap.push cell) (o := { cls := .type "enumerate", data := .fields #[.none, .bool false, .ref s.heap.objs.size, rawInt 0, .none, .none] }) rfl
    rw [sz] at z
    exact z
  exact ⟨⟨_, made, rfl⟩, k _ made (Heap.get?_push_of_some _ (Heap.get?_push_size _ B.free)) fun c x e => Heap.get?_push_of_some _ (Heap.get?_push_of_some _ e)⟩
end
/-- the tuple at a, each item in a new pair -/
def IteT (K : PySem.W.Frag) (a : Addr) : It where
  go := fun i H => ∃ (xs : List V) (x : V), SqT K H a xs ∧ xs[i]? = some x
  yld := fun i H v H' => ∃ T x, v = .ref T ∧ H T = none ∧ H' = upd H T (.tup [.int (i : Nat), x]) ∧ ∀ ys, SqT K H a ys → ys[i]? = some x
  stop := fun i H => ∃ ys : List V, SqT K H a ys ∧ ys.length ≤ i
theorem turn_enumT {prog : Program} {w : World} {K : PySem.W.Frag} {elts : List Expr} {kk : Nat} {tpos : Pos} (a e it : Addr) :
    Turn prog w K (.Tuple elts kk tpos) (IteT K a) [e, it] e (fun i h => (∃ old, IsEnum h e it ((i : Nat) : Int) old) ∧ h.IsTupleIter it a i ∧ e ≠ it) where
  mem := List.mem_cons_self
  obj := fun i h st b hb => by
    obtain ⟨⟨old, he⟩, ⟨o, ho, _, hd⟩, _⟩ := st
    rcases List.mem_cons.mp hb with rfl | hb
    · exact ⟨_, he, fun v q => nomatch q⟩
    · obtain rfl := List.mem_singleton.mp hb
      exact ⟨o, ho, fun v q => by rw [hd] at q; cases q⟩
  keep := fun i h h' st k => let ⟨⟨old, he⟩, hi, hne⟩ := st; ⟨⟨old, k e (by simp) _ he⟩, hi.at fun o q => k it (by simp) o q, hne⟩
  item := by
    rintro X rfl rfl rfl hc i pins s σ H E J hf ⟨⟨old, he⟩, hit, hne⟩ ⟨xs, x, hq, hx⟩
    obtain ⟨its, rv, pl, hz⟩ := J.tuple hq
    obtain ⟨u, hu, ru⟩ := rv.get hx
    have hel : e < s.heap.objs.size := Heap.lt_size he
    have hil : it < s.heap.objs.size := by obtain ⟨_, q, _⟩ := hit; exact Heap.lt_size q
    have hai : a ≠ it := fun z => by
      obtain ⟨o1, a1, a2, _⟩ := pl
      obtain ⟨o2, b1, b2, _⟩ := hit
      rw [z, b1] at a1
      cases a1
      exact absurd (b2.symm.trans a2) (by simp)
    have hae : a ≠ e := fun z => by
      obtain ⟨o1, a1, a2, _⟩ := pl
      have b1 := he
      unfold IsEnum at b1
      rw [z, b1] at a1
      cases a1
      exact absurd a2 (by simp)
    have lt : i < its.length := (List.getElem?_eq_some_iff.mp hu).1
    refine wpAny_pyNext_enum_itemD (n := its.toArray.size) (Draws.tuple (A := X.A.in1) (J.ok.hd hc) it a hai its.toArray) he ⟨hit, pl⟩ (by simpa using lt) hne (show e ∉ [it, a] by simp [hne, Ne.symm hae]) fun y h' tk hy ho hst hT hsz hk => ?_
    have ey : y = u := by
      have z : its[i]? = some y := by simpa using hy
      rw [z] at hu
      exact Option.some.inj hu
    subst ey
    refine ⟨_, rfl, wpAny_letOwnedTupleGo_enum (s := { s with heap := h', toks := tk + 1 }) ho fun h2 he2 sb => ?_⟩
    have hT2 := (sb.2 _ (Nat.ne_of_gt hel)).trans hT
    have fresh : H s.heap.objs.size = none := J.hok.fresh (Nat.le_refl _)
    have made : ObjOk X.prog X.w (upd H s.heap.objs.size (.tup [.int (i : Nat), x])) h2 s.heap.objs.size (.tup [.int (i : Nat), x]) :=
      ⟨by show 2 ≤ sizeLine; decide, [.int i tk, y], .cons ⟨_, rfl⟩ (.cons ru .nil), ⟨_, hT2, rfl, _, rfl⟩⟩
    have J2 : Inv X pins σ (upd H s.heap.objs.size (.tup [.int (i : Nat), x])) { s with heap := h2, toks := tk + 1 } := by
      refine J.turnedNew (ch := [e, it]) (fun b ob hb q => ?_) hf (Nat.le_refl _) made
      have n1 : b ≠ e := fun z => hb (by simp [z])
      have n2 : b ≠ it := fun z => hb (by simp [z])
      exact (sb.2 b n1).trans (hk b ob n1 n2 q)
    refine ⟨.ref s.heap.objs.size, _, J2, rfl, ⟨_, x, rfl, fresh, rfl, fun ys hy => by rw [J.tuple_inj hy hq]; exact hx⟩, ⟨⟨_, he2⟩, hst.1.at fun o q => (sb.2 it (Ne.symm hne)).trans q, hne⟩, fun b hb => ?_⟩
    have lb : b < s.heap.objs.size := by
      rcases List.mem_cons.mp hb with rfl | hb
      · exact hel
      · rw [List.mem_singleton.mp hb]; exact hil
    rw [upd_ne (Nat.ne_of_lt lb)]
    exact (hf b hb).1
  done := by
    rintro X rfl rfl rfl hc i pins s σ H E J hf ⟨⟨old, he⟩, hit, hne⟩ ⟨xs, hq, hx⟩
    obtain ⟨its, rv, pl, hz⟩ := J.tuple hq
    have hai : a ≠ it := fun z => by
      obtain ⟨o1, a1, a2, _⟩ := pl
      obtain ⟨o2, b1, b2, _⟩ := hit
      rw [z, b1] at a1
      cases a1
      exact absurd (b2.symm.trans a2) (by simp)
    obtain ⟨f0, f1, f2, f3, f4, f5⟩ := hf it (by simp)
    have D : Draws X.prog X.w X.A.in1 it [it, a] i (fun _ _ => True) (fun j h => j = i ∧ h.IsTupleIter it a i ∧ h.IsTuple a its.toArray) :=
      { live := fun _ _ st => let ⟨o, ho, _⟩ := st.2.1; ⟨o, ho⟩
        frame := fun _ _ _ st hk => ⟨st.1, st.2.1.at fun o q => hk it (by simp) o q, st.2.2.at fun o q => hk a (by simp) o q⟩
        item := fun j _ _ _ hlt st _ => by have := st.1; omega
        done := fun s Q E st hE => wpAny_nextOf_tuple_end (A := X.A.in1) (J.ok.hd hc) st.2.1 st.2.2 (by have := rv.length; simp; omega) hE }
    exact wpAny_pyNext_enum_endD D he ⟨rfl, hit, pl⟩ fun h2 eb => ⟨rfl, J.turned (t' := s.toks) (fun b o hb q => eb b o hb q) f0 f1 f3 f4 f5⟩
  self := fun A i s Q E st h => let ⟨⟨_, he⟩, _⟩ := st; wpAny_pyIter_enum he h
def iEnumT (K : PySem.W.Frag) (ta : TA) : TI := fun σ H R => ta σ H fun vs H1 => ∃ a xs, vs = [.ref a] ∧ SqT K H1 a xs ∧ R (IteT K a) H1
theorem pi_enumT {X : Cx} {K : PySem.W.Frag} {e : Expr} {ta : TA} {p pos tpos : Pos} {elts : List Expr} {kk : Nat} (hg : Gl X "enumerate") (hm : X.mg "enumerate" = none) (ha : PA X [e] ta) (hK : X.K = K := by rfl) (hs : starEach [e] X.env = [(false, eval e X.env)] := by rfl) :
    PI X (.Tuple elts kk tpos) (.Call (.Name "enumerate" p) [e] [] pos) (iEnumT K ta) := by
  subst hK
  constructor
  intro pins s σ H R J h
  refine Call_ (ld_blt J hg hm boot_enumerate (PyProof.Rows.callWith_type1 (thn (ha.run pos pins s σ H _ J h) fun us s1 ⟨vs, H1, J1, r1, a, xs, ex, hq, q⟩ => ?_) hs rfl))
  subst ex
  rw [Vals.ref1 r1]
  obtain ⟨its, rv, pl, hz⟩ := J1.tuple hq
  refine call_enum1 (begins_tuple a its.toArray) pl fun h2 he hcell hk => wpAny_pyIter_enum he ?_
  have J2 : Inv X pins σ H1 { s1 with heap := h2 } := J1.kept (t' := s1.toks) hk
  have newer : ∀ b ∈ [s1.heap.objs.size + 1, s1.heap.objs.size], s1.heap.objs.size ≤ b := fun b hb => by
    rcases List.mem_cons.mp hb with rfl | hb
    · exact Nat.le_add_right _ _
    · rw [List.mem_singleton.mp hb]; exact Nat.le_refl _
  exact ⟨s1.heap.objs.size + 1, _, _, _, H1, rfl, J2, turn_enumT a (s1.heap.objs.size + 1) s1.heap.objs.size, ⟨⟨.none, he⟩, ⟨_, hcell, rfl, rfl⟩, Nat.succ_ne_self _⟩, fun b hb => J1.fpOk (newer b hb) (J1.hok.fresh (newer b hb)), q⟩
section
variable {C : Addr} {K : PySem.W.Frag} {ρ : Ro} {ta : TA} {ds : List PyData}
/-- the pairs (i, x) -/
def enumD (ds : List PyData) : List PyData := (List.range ds.length).map fun i => .tuple [.int (i : Nat), ds.getD i .none]
theorem evi_enumT (h : EvA C ta ρ [.d (.tuple ds)]) : EvI C (iEnumT K ta) ρ ((enumD ds).map DV.d) := fun σ U H L S R q => h σ U H L S _ fun vs U1 H1 g1 r1 => by
  cases r1 with
  | cons r1 t0 =>
    cases t0
    obtain ⟨p, vs, rfl, hp, t⟩ := Td.toTup r1
    refine ⟨p, vs, rfl, SqT.of (g1.uh _ _ hp), q _ U1 H1 g1 fun U' H' e1 e2 i => ⟨fun d hd => ?_, fun hi => ⟨vs, SqT.of (e2 _ _ (e1 _ _ hp)), ?_⟩⟩⟩
    · have hq : SqT K H' p vs := SqT.of (e2 _ _ (e1 _ _ hp))
      have hlt : i < ds.length := by
        have := (List.getElem?_eq_some_iff.mp hd).1
        simpa [enumD] using this
      have hd' : d = .d (.tuple [.int (i : Nat), ds.getD i .none]) := by
        have := (List.getElem?_eq_some_iff.mp hd).2
        rw [← this]
        simp [enumD]
      subst hd'
      obtain ⟨w, h1, h2⟩ := t.get (getD_at (d := PyData.none) hlt)
      refine ⟨⟨vs, w, hq, h1⟩, fun x H'' hy => ?_⟩
      obtain ⟨T, y, rfl, hT, rfl, hx⟩ := hy
      have e3 : y = w := Option.some.inj ((hx vs hq).symm.trans h1)
      subst e3
      exact ⟨_, Gr.new e2 hT, Td.tup upd_same (.cons (.int _) (.cons ((h2.mono e1).mono (same_upd (up_none e2 hT))) .nil))⟩
    · have : ds.length ≤ i := by simpa [enumD] using hi
      rw [t.length]
      exact this
end
end Kx
end
section
set_option Elab.async false
set_option linter.all false
set_option maxRecDepth 100000
set_option maxHeartbeats 4000000
/-! Dicts whose keys are tuples of ints, made by a comprehension; asked. -/
namespace Kx
open PySem PySem.Spec L2
open PyProof.Rows
section
variable {X : Cx}
/-- one more key of a tuple-keyed dict -/
theorem put_tupKey {pins : List (Addr × Obj)} {σ : L2.St} {H : Hp} {s : Shared} {E : Value → Shared → Prop} {D b : Addr} {kvs : List (List L2.Key × V)} {k : List L2.Key} {z : V} {r : Value} {Q : Unit → Shared → Prop} (hu : X.A.units + 1 < cLine)
    (J : Inv X pins σ H s) (hD : H D = some (.dT kvs)) (hb : H b = some (.tup (k.map kV))) (few : kvs.length < sizeLine) (rz : RelV z r)
    (fin : ∀ s2, Inv X pins σ (upd H D (.dT (putK kvs k z))) s2 → Q () s2) : wpAny (model X.prog X.w) X.A (dictSet D (.ref b) r) Q E s := by
  obtain ⟨z1, ns, xs, kt, dd⟩ := dt_of J.hok hD
  have size0 : xs.length ≤ sizeLine := Paired.length kt ▸ z1
  have size1 : (putK kvs k z).length ≤ sizeLine := Nat.le_trans (length_putK kvs k z) few
  refine wpAny_dictSet_heap (hsz := size0) (Nat.lt_of_succ_lt hu) (key_of J.hok hb) dd fun h2 ⟨q, es, ep, a1, a2, a3, a4, _, a6⟩ sb => fin _ ?_
  refine d_write J (by rw [hD]; trivial) sb ⟨q, a1⟩ ⟨size1, ns, _, KT.keeps (KT.put kt k hb rz) fun c ys ec => ?_, q, es, ep, a1, a2, a3, a4, a6⟩
  rw [upd_ne (ne_of ec hD (by intro z; cases z))]
  exact ec
/-- {k: v for target in iter}, its keys tuples -/
def tDcT (wi : TI) (g : TG) (tk tv : TE) (vs : List Nat) : TE := fun σ H Q => wi σ H fun J H1 => ∀ D, H1 D = none → ∃ Wh : Nat → Nat → Hp → Prop, (∃ m, Wh 0 m (upd H1 D (.dT []))) ∧ ∀ i m H2, Wh i m H2 →
  (J.stop i H2 ∧ Q (.ref D) H2) ∨ (J.go i H2 ∧ ∀ x H3, J.yld i H2 x H3 → g x (wipe σ vs) H3 fun σ4 H4 => wipe σ4 vs = wipe σ vs ∧ tk σ4 H4 fun y H5 => tv σ4 H5 fun z H6 =>
    ∃ b kvs k, y = .ref b ∧ H6 b = some (.tup (k.map kV)) ∧ H6 D = some (.dT kvs) ∧ kvs.length < sizeLine ∧ ∃ m2, m2 < m ∧ Wh (i + 1) m2 (upd H6 D (.dT (putK kvs k z))))
theorem pe_dcT {kx vx tg iter : Expr} {sc : Scope} {own : List (Str × Nat)} {pos : Pos} {wi : TI} {g : TG} {tk tv : TE} (hu : X.A.units + 1 < cLine) (calm : X.calm = true) (nd : X.N.Nodup) (walk : PI X tg iter wi) (ok : BlkOk X.N X.env.scope sc own)
    (gT : ∀ (s : Shared) (H : Hp) (c : Addr) (cl : List (Str × Addr)) (fp : List Addr), PG (X.blk s H sc (compEnvC sc cl c X.env) fp) tg g)
    (kT : ∀ (s : Shared) (H : Hp) (c : Addr) (cl : List (Str × Addr)) (fp : List Addr), PE (X.blk s H sc (compEnvC sc cl c X.env) fp) kx tk)
    (vT : ∀ (s : Shared) (H : Hp) (c : Addr) (cl : List (Str × Addr)) (fp : List Addr), PE (X.blk s H sc (compEnvC sc cl c X.env) fp) vx tv) (fold : ∀ x, foldedSetIterable iter X.env x = pure x := by intro _; rfl) :
    PE X (.DictComp kx vx [⟨tg, iter, [], 0⟩] sc pos) (tDcT wi g tk tv (own.map (·.2))) := by
  constructor
  intro pins s σ H Q J0 plan
  rw [arm_eval_DictComp]
  have open1 : ∀ y ∈ sc.names, y.2 = .free → ∃ c, X.env.cells.lookup y.1 = some c := fun y hy e => by
    rcases ok.free y hy e with z | z
    · exact J0.ok.has _ (.inl z)
    · exact J0.ok.has _ (.inr z)
  refine wpAny_comprehension_free (use := none) rfl fold (closure_ok open1) ok.kind (fun y hy e => by rw [ok.uniq y hy, e]) (thn (walk.run pins s σ H _ J0 plan) fun _ s1 h1 => thn h1 fun _ s2 ⟨it, fp, tn, W, H2, e, J2, T, t2, f2, q⟩ => ?_)
  subst e
  refine wpAny_newObj_type (newEnv_comp ?_)
  have freshD : H2 s2.heap.objs.size = none := J2.hok.fresh (Nat.le_refl _)
  obtain ⟨Wh, ⟨m0, w0⟩, turn⟩ := q _ freshD
  have J3 : Inv X pins σ (upd H2 s2.heap.objs.size (.dT [])) { s2 with heap := s2.heap.push { cls := .type "dict", data := .dict #[] } } :=
    J2.laid (t' := s2.toks) (fun _ _ e => Heap.get?_push_of_some _ e) (Nat.le_refl _) (dt_empty s2.heap J2.big)
  have lt2 : ∀ b ∈ fp, b < s2.heap.objs.size := fun b hb => let ⟨_, e, _⟩ := T.obj _ _ t2 b hb; Heap.lt_size e
  have t3 : tn 0 (s2.heap.push { cls := .type "dict", data := .dict #[] }) := T.keep _ _ _ t2 fun _ _ _ e => Heap.get?_push_of_some _ e
  have f3 : ∀ b ∈ fp, FpOk X pins (upd H2 s2.heap.objs.size (.dT [])) b ∧ b < (s2.heap.push { cls := .type "dict", data := .dict #[] }).objs.size := fun b hb => by
    have l := lt2 b hb
    refine ⟨⟨?_, (f2 b hb).2⟩, by rw [Heap.size_push]; exact Nat.lt_succ_of_lt l⟩
    rw [upd_ne (Nat.ne_of_lt l)]
    exact (f2 b hb).1
  generalize hD : s2.heap.objs.size = D at *
  generalize hH3 : upd H2 D (.dT []) = H3 at J3 f3 w0
  generalize hs3 : ({ s2 with heap := s2.heap.push { cls := .type "dict", data := .dict #[] } } : Shared) = s3 at *
  have hh3 : s2.heap.push { cls := .type "dict", data := .dict #[] } = s3.heap := by rw [← hs3]
  rw [hh3] at f3 t3
  have J4 := block_start J3 ok nd f3
  have pg := gT s3 H3 s3.heap.objs.size (cellsFrom (s3.heap.objs.size + 1) sc.names (cloFrom X.env.cells sc.names [])) fp
  have pk := kT s3 H3 s3.heap.objs.size (cellsFrom (s3.heap.objs.size + 1) sc.names (cloFrom X.env.cells sc.names [])) fp
  have pv := vT s3 H3 s3.heap.objs.size (cellsFrom (s3.heap.objs.size + 1) sc.names (cloFrom X.env.cells sc.names [])) fp
  have n3 : ∀ b ∈ fp, H3 b = none := fun b hb => (f3 b hb).1.1
  show codeAny _ X.A (.compStart (.DictComp kx vx [⟨tg, iter, [], 0⟩] sc pos) 0 (.ref it) (.ref D) (compEnvC sc (cellsFrom (s3.heap.objs.size + 1) sc.names (cloFrom X.env.cells sc.names [])) s3.heap.objs.size X.env))
    (compPost (model X.prog X.w) X.A X.xe none (EP X pins σ Q) (.ref D) s3.heap.objs.size) { s3 with heap := pushCells (s3.heap.push { cls := .type "dict", data := .dict #[] }) sc.names }
  generalize hce : compEnvC sc (cellsFrom (s3.heap.objs.size + 1) sc.names (cloFrom X.env.cells sc.names [])) s3.heap.objs.size X.env = ce at *
  have lce : ce.locals = s3.heap.objs.size := by rw [← hce]; rfl
  have own0 : ∀ {σ1 : L2.St} {H1 : Hp} {s1 : Shared}, Inv (X.blk s3 H3 sc ce fp) [] σ1 H1 s1 → (∀ b ∈ fp, H1 b = none) → ∀ b ∈ fp, FpOk (X.blk s3 H3 sc ce fp) [] H1 b := fun {σ1 H1 s1} J n b hb =>
    ⟨n b hb, (J.ok.exf b hb).1, J.ok.exfs b hb, .inl hb, fun x c e => (J.ok.exf b hb).2 x c e, fun p hp => absurd (show p ∈ ([] : List (Addr × Obj)) ++ [] from hp) (by simp)⟩
  generalize hs4 : ({ s3 with heap := pushCells (s3.heap.push { cls := .type "dict", data := .dict #[] }) sc.names } : Shared) = s4 at *
  have t4 : tn 0 s4.heap := T.keep _ _ _ t3 fun _ _ _ e => by rw [← hs4]; exact pushCells_keeps _ _ _ _ (Heap.get?_push_of_some _ e)
  have goal4 : codeAny (model X.prog X.w) X.A (.compLoop (.DictComp kx vx [⟨tg, iter, [], 0⟩] sc pos) 0 (.ref it) (.ref D) ce) (compPost (model X.prog X.w) X.A X.xe none (EP X pins σ Q) (.ref D) s3.heap.objs.size) s4 := by
    refine compLoop_anyD (fun n s5 => ∃ i H5, Inv (X.blk s3 H3 sc ce fp) [] (wipe σ (own.map (·.2))) H5 s5 ∧ tn i s5.heap ∧ (∀ b ∈ fp, H5 b = none) ∧ Wh i n H5) (fun n s5 ⟨i, H5, J5, t5, n5, w5⟩ => ?_) m0 ⟨0, H3, J4, t4, n3, w0⟩
    rcases turn i n H5 w5 with ⟨stop, last⟩ | ⟨go, step⟩
    · refine thnF (T.done (X.blk s3 H3 sc ce fp) rfl rfl rfl calm i [] s5 _ H5 (fun _ _ => False) J5 (own0 J5 n5) t5 stop) fun r s6 ⟨er, J6⟩ => ?_
      subst er
      have J7 : Inv X pins σ H5 s6 := J3.call' (ch := fp) J6.os J6.base J6.hok J6.bare fun b hb => ⟨(f3 b hb).1.2.2.2.1, (f3 b hb).1.2.1, (f3 b hb).1.2.2.2.2.1, (f3 b hb).1.2.2.2.2.2⟩
      have gone : H5 s3.heap.objs.size = none := by
        have z : H5 ce.locals = none := J6.free
        rwa [lce] at z
      obtain ⟨m, ns6, _⟩ := J6.loc
      have ns6 : s6.heap.Ns ce.locals m := ns6
      rw [lce] at ns6
      obtain ⟨_, c1, c2, c3, c4, c5⟩ := J3.fpOk (Nat.le_refl _) gone
      exact ⟨m, ns6, fun h7 sb => ⟨.ref D, H5, J7.turned (t' := s6.toks) (fun b o hb e => (sb.2 b hb).trans e) gone c1 c3 c4 c5, rfl, last⟩⟩
    · refine thnF (T.item (X.blk s3 H3 sc ce fp) rfl rfl rfl calm i [] s5 _ H5 (fun _ _ => False) J5 (own0 J5 n5) t5 go) fun r s6 ⟨u, er, h6⟩ => ?_
      subst er
      refine thnF h6 fun _ s7 ⟨x, H7, J7, rx, y7, t7, n7⟩ => ?_
      refine thnF (pg.run _ s7 _ H7 x u _ (J7.pinned (own0 J7 n7) (T.obj _ _ t7)) rx (step x H7 y7)) fun _ s8 ⟨σ8, H8, J8, e8, q8⟩ => ?_
      refine thnF ((pts_nil (X := X.blk s3 H3 sc ce fp)).run _ s8 σ8 H8 (fun b Hb => b = true ∧ Hb = H8) J8 ⟨rfl, rfl⟩) fun b s9 ⟨H9, J9, eb, eH⟩ => ?_
      subst eb eH
      simp only [if_true]
      refine thnF (pk.run _ s9 σ8 H9 _ J9 q8) fun kv s10 ⟨y, H10, J10, ry, q10⟩ => ?_
      refine thnF (pv.run _ s10 σ8 H10 _ J10 q10) fun vv s11 ⟨z, H11, J11, rz, b, kvs, k, ey, hb, hD11, few, m2, lt, w11⟩ => ?_
      subst ey
      obtain rfl : kv = Value.ref b := ry
      refine put_tupKey (X := X.blk s3 H3 sc ce fp) hu J11 hD11 hb few rz fun s12 J12 => ?_
      have pin12 : ∀ c ∈ fp, ∀ o, s7.heap.get? c = some o → s12.heap.get? c = some o ∧ upd H11 D (.dT (putK kvs k z)) c = none := fun c hc o e =>
        let p := J12.pin (c, o) (List.mem_append_right _ (List.mem_append_right _ (mem_pinsAt hc e)))
        ⟨p.1, p.2.1⟩
      have lens : (wipe σ (own.map (·.2))).length = σ8.length := by rw [← e8, wipe_length]
      refine ⟨m2, lt, i + 1, _, (J12.unpinned (pins := [])).weak lens (fun j v e => ?_), T.keep _ _ _ t7 fun c hc o e => (pin12 c hc o e).1, fun c hc => ?_, w11⟩
      · rw [← e8] at e
        exact (wipe_some e).1
      · obtain ⟨o, e, _⟩ := T.obj _ _ t7 c hc
        exact (pin12 c hc o e).2
  exact codeAny_compStart_dict goal4 (T.self X.A 0 _ _ _ t4 goal4)
end
section
variable {C : Addr} {K : PySem.W.Frag} {ρ : Ro} {te ta tb : TE} {wi : TI} {j : Nat} {rows : List (List Int)}
theorem inlE {r q : List Int} : (r.map Sum.inl : List L2.Key) = q.map Sum.inl ↔ r = q := ⟨fun h => by
  have e := congrArg (List.map (fun k : L2.Key => match k with | .inl i => i | .inr _ => 0)) h
  simpa [List.map_map, Function.comp_def] using e, fun h => h ▸ rfl⟩
theorem tab_put (rs : List (List Int)) (r : List Int) : ∃ rs2, putK (tabE rs) (r.map Sum.inl) (V.bl true) = tabE rs2 ∧ (∀ q, q ∈ rs2 ↔ q ∈ rs ∨ q = r) ∧ rs2.length ≤ rs.length + 1 := by
  unfold putK
  by_cases h : r ∈ rs
  · refine ⟨rs, ?_, fun q => ⟨.inl, fun z => z.elim id fun e => e ▸ h⟩, Nat.le_succ _⟩
    have e : ((tabE rs).any fun kv => decide (kv.1 = r.map Sum.inl)) = true := List.any_eq_true.mpr ⟨_, List.mem_map.mpr ⟨r, h, rfl⟩, by simp⟩
    rw [if_pos e]
    unfold tabE
    rw [List.map_map]
    refine List.map_congr_left fun q _ => ?_
    show (if _ then _ else _) = _
    split <;> rfl
  · refine ⟨rs ++ [r], ?_, fun q => by simp, by simp⟩
    have e : ((tabE rs).any fun kv => decide (kv.1 = r.map Sum.inl)) = false := List.any_eq_false.mpr fun kv hm => by
      obtain ⟨q, hq, rfl⟩ := List.mem_map.mp hm
      simp only [decide_eq_true_eq]
      intro z
      exact h (inlE.mp z ▸ hq)
    rw [if_neg (by rw [e]; decide)]
    unfold tabE
    rw [List.map_append]
    rfl
theorem tab_len (rs : List (List Int)) : (tabE rs).length = rs.length := List.length_map ..
theorem kv_ints (r : List Int) : ((r.map Sum.inl : List L2.Key).map kV) = r.map V.int := by rw [List.map_map]; rfl
/-- {r: True for r in rows} -/
theorem ev_dcT (hi : EvI C wi ρ (rows.map fun r => DV.d (intsD r))) (hl : rows.length ≤ 90000) (hj : j < ρ.length) : Ev C (tDcT wi (gName j) (tVar j) (tC (.bl true)) [j]) ρ (.tab rows) := fun σ U H L S Q q =>
  hi σ U H L S _ fun J U1 H1 g1 wk D hD => by
    have uD : U1 D = none := up_none g1.uh hD
    refine ⟨fun i m H' => ∃ U' rs, i + m = rows.length ∧ Gr [D] U1 H1 U' H' ∧ U' D = none ∧ H' D = some (.dT (tabE rs)) ∧ (∀ r, r ∈ rs ↔ r ∈ rows.take i) ∧ rs.length ≤ i,
      ⟨rows.length, U1, [], by omega, Gr.priv g1.uh hD, uD, upd_same, by simp, by simp⟩, fun i m H' ⟨U', rs, em, gr, nD, hd, mem, len⟩ => ?_⟩
    obtain ⟨w1, w2⟩ := wk U' H' gr.uu gr.uh i
    by_cases hlt : i < rows.length
    · have ea : rows[i]? = some rows[i] := List.getElem?_eq_getElem hlt
      obtain ⟨go, yl⟩ := w1 (.d (intsD rows[i])) (by rw [List.getElem?_map, ea]; rfl)
      refine .inr ⟨go, fun x H2 hy => ?_⟩
      obtain ⟨U2, g2, rx⟩ := yl x H2 hy
      obtain ⟨b, vs, rfl, hb, tb⟩ := Td.toTup rx
      have vsE : vs = rows[i].map V.int := tb.ints
      subst vsE
      have hD2 : H2 D = some (.dT (tabE rs)) := g2.hh _ _ hd (by simp)
      have nD2 : U2 D = none := g2.none_u (by rw [hd]; intro z; cases z) nD
      obtain ⟨rs2, e2, mem2, len2⟩ := tab_put rs rows[i]
      have wl : j < (wipe σ [j]).length := by rw [wipe_length, L.len]; exact hj
      refine ⟨wipe_ext (σ := wipe σ [j]) (List.length_set ..) (fun k hk => List.getElem?_set_ne fun z => hk (by simp [z])) |>.trans (wipe_wipe _ _), ?_⟩
      refine ⟨_, List.getElem?_set_self wl, b, tabE rs, rows[i].map Sum.inl, rfl, ?_, hD2, szlt (by rw [tab_len]; omega), m - 1, by omega, U2, rs2, by omega, ?_, nD2, by rw [e2]; exact upd_same, fun r => ?_, by omega⟩
      · rw [kv_ints]
        exact g2.uh _ _ hb
      · rw [e2]
        exact (gr.trans g2.any).trans (Gr.mut g2.uh nD2 (by simp))
      · rw [mem2, mem, take_succ_at ea, List.mem_append, List.mem_singleton]
    · have ei : i = rows.length := by omega
      subst ei
      rw [List.take_length] at mem
      have g := g1.trans (gr.drop (by simpa using hD))
      exact .inl ⟨w2 (by rw [List.length_map]; exact Nat.le_refl _), q _ (upd U' D (.dT (tabE rs))) H' (g.tell S (g1.same.free hD) hd nD) ⟨D, rs, rfl, mem, upd_same⟩⟩
/-- r in known -/
theorem ev_inTab {r : List Int} {b : Bool} (ha : Ev C ta ρ (.d (intsD r))) (hb : Ev C tb ρ (.tab rows)) (h : decide (r ∈ rows) = b) : Ev C (tDIn ta tb) ρ (bD b) := fun σ U H L S Q q =>
  ha σ U H L S _ fun v U1 H1 g1 r1 => hb σ U1 H1 (L.mono g1.uu) g1.uh _ fun w U2 H2 g2 ⟨p, rs, e, mem, hp⟩ => by
    subst e
    obtain ⟨c, vs, rfl, hc, tc⟩ := Td.toTup (r1.mono g2.uu)
    have vsE : vs = r.map V.int := tc.ints
    subst vsE
    refine ⟨p, _, rfl, DGet.t (k := r.map Sum.inl) (g2.uh _ _ hp) (by rw [kv_ints]; exact g2.uh _ _ hc), ?_⟩
    have e : (valV (tabE rs) (r.map Sum.inl)).isSome = b := by
      rw [← valV_any, ← h]
      apply Bool.eq_iff_iff.mpr
      rw [List.any_eq_true, decide_eq_true_eq, ← mem]
      constructor
      · rintro ⟨kv, hm, hk⟩
        obtain ⟨q, hq, rfl⟩ := List.mem_map.mp hm
        rw [← inlE.mp (of_decide_eq_true hk)]
        exact hq
      · exact fun hr => ⟨_, List.mem_map.mpr ⟨r, hr, rfl⟩, decide_eq_true rfl⟩
    rw [e]
    exact q _ U2 H2 (g1.trans g2) (.bl b)
end
end Kx
end
section
set_option Elab.async false
set_option linter.all false
set_option maxRecDepth 100000
set_option maxHeartbeats 4000000
/-! Lists or tuples; defs with defaults. -/
namespace Kx
open PySem PySem.Spec L2
open PyProof.Rows (envOfC)
theorem hu1 {k : Nat} {A : Around} (hr : Room k A) : A.units + 1 < cLine := by have := hr.units; omega
/-- a list or a tuple -/
def seqLT (isL : Bool) (ds : List PyData) : PyData := if isL then .list ds else .tuple ds
section
variable {X : Cx} {C : Addr} {K : PySem.W.Frag} {ρ : Ro} {te ta tb : TE} {t : TA} {l tg : Expr} {b : Bool} {ds : List PyData}
def iSeq (K : PySem.W.Frag) (te : TE) : TI := fun σ H R => te σ H fun x H1 => ∃ a xs, x = .ref a ∧ ((SqL K H1 a xs ∧ R (Itl K a) H1) ∨ (SqT K H1 a xs ∧ R (Itt K a) H1))
theorem pi_seqK (hK : X.K = K) (he : PE X l te) : PI X tg l (iSeq K te) := by
  subst hK
  constructor
  intro pins s σ H R J h
  refine thn (he.run pins s σ H _ J h) fun v s1 ⟨x, H1, J1, rx, a, xs, ex, alt⟩ => ?_
  subst ex
  obtain rfl : v = Value.ref a := rx
  rcases alt with ⟨hq, q⟩ | ⟨hq, q⟩
  · obtain ⟨its, rv, pl, _⟩ := J1.list hq
    exact wpAny_pyIter_list pl.isList (pi_one (tk := s1.toks) J1 _ (turn_list a _) ⟨_, Heap.get?_push_size _ rfl, rfl, rfl⟩ q)
  · obtain ⟨its, rv, pl, _⟩ := J1.tuple hq
    exact wpAny_pyIter_tuple (items := its.toArray) pl (pi_one (tk := s1.toks) J1 _ (turn_tuple a _) ⟨_, Heap.get?_push_size _ rfl, rfl, rfl⟩ q)
theorem wk_list {U H : Hp} {p : Addr} {vs : List V} (hp : U p = some (.lst vs)) (t : TdAll U vs ds) : Wk C (Itl K p) U (ds.map DV.d) := fun U' H' e1 e2 i => by
  have hq : SqL K H' p vs := SqL.of (e2 _ _ (e1 _ _ hp))
  refine ⟨fun d hd => ?_, fun hi => ⟨vs, hq, by rw [t.length]; simpa using hi⟩⟩
  rw [List.getElem?_map] at hd
  obtain ⟨z, e, hd'⟩ := Option.map_eq_some_iff.mp hd
  subst hd'
  obtain ⟨w, h1, h2⟩ := t.get e
  refine ⟨⟨vs, w, hq, h1⟩, fun x H'' ⟨eH, hx⟩ => ?_⟩
  subst eH
  obtain rfl : x = w := Option.some.inj ((hx vs hq).symm.trans h1)
  exact ⟨U', .refl e2, h2.mono e1⟩
theorem wk_tup {U H : Hp} {p : Addr} {vs : List V} (hp : U p = some (.tup vs)) (t : TdAll U vs ds) : Wk C (Itt K p) U (ds.map DV.d) := fun U' H' e1 e2 i => by
  have hq : SqT K H' p vs := SqT.of (e2 _ _ (e1 _ _ hp))
  refine ⟨fun d hd => ?_, fun hi => ⟨vs, hq, by rw [t.length]; simpa using hi⟩⟩
  rw [List.getElem?_map] at hd
  obtain ⟨z, e, hd'⟩ := Option.map_eq_some_iff.mp hd
  subst hd'
  obtain ⟨w, h1, h2⟩ := t.get e
  refine ⟨⟨vs, w, hq, h1⟩, fun x H'' ⟨eH, hx⟩ => ?_⟩
  subst eH
  obtain rfl : x = w := Option.some.inj ((hx vs hq).symm.trans h1)
  exact ⟨U', .refl e2, h2.mono e1⟩
theorem evi_seq (h : Ev C te ρ (.d (seqLT b ds))) : EvI C (iSeq K te) ρ (ds.map DV.d) := fun σ U H L S R q => h σ U H L S _ fun v U1 H1 g1 r1 => by
  cases b with
  | true =>
    obtain ⟨p, vs, rfl, hp, t⟩ := Td.toLst r1
    exact ⟨p, vs, rfl, .inl ⟨SqL.of (g1.uh _ _ hp), q _ U1 H1 g1 (wk_list (H := H1) hp t)⟩⟩
  | false =>
    obtain ⟨p, vs, rfl, hp, t⟩ := Td.toTup r1
    exact ⟨p, vs, rfl, .inr ⟨SqT.of (g1.uh _ _ hp), q _ U1 H1 g1 (wk_tup (H := H1) hp t)⟩⟩
theorem evi_seqM {α : Type} (f : α → PyData) (l : List α) (h : Ev C te ρ (.d (seqLT b (l.map f)))) : EvI C (iSeq K te) ρ (l.map fun a => DV.d (f a)) := by
  have e := evi_seq (K := K) h
  rw [List.map_map] at e
  exact e
theorem rc_lenS : RC C (fun xs H Q => ∃ p ys, xs = [V.ref p] ∧ (SqL K H p ys ∨ SqT K H p ys) ∧ Q (.int ys.length) H) [.d (seqLT b ds)] (iD ds.length) := by
  cases b with
  | true => exact rc_lenL
  | false => exact rc_lenT
theorem seq_alt (b : Bool) (ds : List PyData) : DV.d (seqLT b ds) = .d (.list ds) ∨ DV.d (seqLT b ds) = .d (.tuple ds) := by
  cases b with
  | true => exact .inl rfl
  | false => exact .inr rfl
theorem ev_isiSeq (h : Ev C ta ρ (.d (seqLT b ds))) : Ev C (tCB (rIsiT K) (tCons ta (tCons (tTup (tCons (tC (.ty "list")) (tCons (tC (.ty "tuple")) tNil))) tNil))) ρ (bD true) := by
  cases b with
  | true => exact ev_isiT (t := "list") (b1 := true) (b2 := false) h rfl (by decide +kernel) (by decide +kernel) rfl
  | false => exact ev_isiT (t := "tuple") (b1 := false) (b2 := true) h rfl (by decide +kernel) (by decide +kernel) rfl
end
def defPars (s : Stmt) : Arguments := defArgs s
section
variable {P : Program} {w : World} {K : PySem.W.Frag} {mg : Str → Option Value} {base : Heap} {C : Addr} {α : Type}
/-- .. for a def with defaults -/
theorem def_okD {x qual : Str} {st : Stmt} {dvs : List V} {f : Addr} {fd : FuncData} {N ps : List Str} {k : Nat} {Pm : Prm α} (F : FunD K x qual (defPars st) (defBody st) (defScope st) dvs [] f fd) (S : FnScope N ps (defScope st)) (hl : ∀ y, (Pm.args y).length = ps.length) (hN : ps.length ≤ N.length)
    (hb : ∀ (cdv : Value) (A : Around) (outer : List Env) (s : Shared) (H : Hp) (E : XK), Room k (A.deeper (envOfC qual (defScope st) s.heap.objs.size f cdv)) →
      ∃ t, PSs (cxOf CX0 P w K mg base N qual (defScope st) f cdv A outer s H E) (defBody st) t ∧ ∀ (y : α) (U : Hp) (σ : L2.St) (Q : VK), Same U H → Lo C U σ ((Pm.args y).map some ++ List.replicate (N.length - (Pm.args y).length) none) → Pm.pre y →
        (∀ v d U' H', Gr [] U H U' H' → Rp C U' v d → Pm.post y d → Q v H') → t { nx := fun _ H' => Q .non H', rt := Q } σ H) : FnOk P w K mg base CX0 (k + 1) f fd ps (Pm.sp C) := by
  refine F.ok S (fun vs H Q E ⟨y, U, _, h2, _⟩ => (Paired.length h2).trans (hl y)) fun cdv A outer s H vs Q E hr ⟨y, U, hs, hv, hp, q⟩ => ?_
  obtain ⟨t, h1, h2⟩ := hb cdv A outer s H E hr
  have e : vs.length = ps.length := (Paired.length hv).trans (hl y)
  exact ⟨t, h1, h2 y U _ Q hs (loc_start hv (by omega)) hp q⟩
end
end Kx
end
section
set_option Elab.async false
set_option linter.all false
set_option maxRecDepth 100000
set_option maxHeartbeats 4000000
/-! Sorting of typed data; slices cut; enumerate. -/
namespace Kx
open PySem PySem.Spec L2
open PySem.W (Datum DatumOrd)
section
variable {α : Type} [DecidableEq α] [DatumOrd α]
theorem dle (a b : α) : PySem.W.dataLe false id (Datum.toD a) (Datum.toD b) = !DatumOrd.lt b a := by
  show (!PySem.W.dataLt (Datum.toD b) (Datum.toD a)) = _
  rw [DatumOrd.lt_eq]
/-- sorting sees no order -/
theorem sortD_eq {l m : List α} (anti : ∀ a b : α, DatumOrd.lt a b = false → DatumOrd.lt b a = false → a = b) (p : l.Perm m) (s : m.Pairwise fun a b => DatumOrd.lt b a = false) : sortD (l.map Datum.toD) = m.map Datum.toD := by
  have T : PySem.W.TotalLe (PySem.W.dataLe false (id : PyData → PyData)) := PySem.W.sortLe_total _ _ _
  refine List.Perm.eq_of_pairwise (le := fun a b => PySem.W.dataLe false id a b = true) (fun a b ha hb h1 h2 => ?_) (PySem.W.sort_pairwise T _) ?_ ((List.mergeSort_perm _ _).trans (p.map _))
  · have ha' := (List.mergeSort_perm _ _).mem_iff.mp ha
    obtain ⟨x, _, rfl⟩ := List.mem_map.mp ha'
    obtain ⟨y, _, rfl⟩ := List.mem_map.mp hb
    rw [dle] at h1 h2
    rw [anti x y (by simpa using h2) (by simpa using h1)]
  · rw [List.pairwise_map]
    exact s.imp fun h => by rw [dle, h]; rfl
theorem so_datum (l : List α) (hs : PySem.W.Sortable (l.map (Datum.toD (α := α)))) (hf : ∀ a : α, flatD (Datum.toD a) = true) (hd : Datum.depth α ≤ 60) : SortOk (l.map Datum.toD) := by
  refine ⟨PySem.W.AllAlike.of fun b b' => DatumOrd.alike b b', hs, fun d h => ?_, fun d h => ?_⟩
  · obtain ⟨a, _, rfl⟩ := List.mem_map.mp h
    exact hf a
  · obtain ⟨a, _, rfl⟩ := List.mem_map.mp h
    exact Nat.le_trans (Datum.depth_le a) hd
end
theorem sortD_nats {l m : List Nat} (p : l.Perm m) (s : m.Pairwise (· ≤ ·)) : sortD (l.map nI) = m.map nI := by
  have h := sortD_eq (α := Int) (l := l.map fun (x : Nat) => (x : Int)) (m := m.map fun (x : Nat) => (x : Int)) (fun a b h1 h2 => by
    have h1 : ¬ a < b := of_decide_eq_false h1
    have h2 : ¬ b < a := of_decide_eq_false h2
    omega) (p.map _) (by
      rw [List.pairwise_map]
      exact s.imp fun {a b} h => decide_eq_false (by omega))
  rw [List.map_map, List.map_map] at h
  exact h
section
variable {C : Addr} {K : PySem.W.Frag} {ρ : Ro} {ta : TA}
theorem evi_enumN {o : List Nat} (h : EvA C ta ρ [.d (nT o)]) : EvI C (iEnumT K ta) ρ ((List.range o.length).map fun i => .d (.tuple [nI i, nI (o.getD i 0)])) := by
  have e := evi_enumT (K := K) (ds := o.map nI) h
  have e2 : (enumD (o.map nI)).map DV.d = (List.range o.length).map fun i => DV.d (.tuple [nI i, nI (o.getD i 0)]) := by
    unfold enumD
    rw [List.map_map, List.length_map]
    refine List.map_congr_left fun i hi => ?_
    have hi := List.mem_range.mp hi
    show DV.d (.tuple [nI i, (o.map nI).getD i .none]) = _
    rw [List.getD_eq_getElem?_getD, List.getElem?_map, getD_at (d := 0) hi]
    rfl
  rw [e2] at e
  exact e
theorem cut_take {ds : List PyData} {i : Nat} (h : i ≤ ds.length) : cutD ds none (some (i : Int)) = ds.take i := by
  unfold cutD
  rw [HT.sIx_nat]
  show (ds.drop 0).take (min i ds.length - 0) = _
  rw [List.drop_zero, Nat.sub_zero, Nat.min_eq_left h]
end
end Kx
end
section
set_option Elab.async false
set_option linter.all false
set_option maxRecDepth 100000
set_option maxHeartbeats 4000000
/-! len(set(..)); a class's instance made, its fields set. -/
namespace Kx
open PySem PySem.Spec L2
open PyProof.Rows
theorem nodup_le {α : Type} [DecidableEq α] : ∀ {l m : List α}, l.Nodup → (∀ x ∈ l, x ∈ m) → l.length ≤ m.length
  | [], _, _, _ => Nat.zero_le _
  | x :: l, m, hn, hs => by
    obtain ⟨h1, h2⟩ := List.nodup_cons.mp hn
    have hx : x ∈ m := hs x List.mem_cons_self
    have ih := nodup_le (m := m.erase x) h2 fun y hy => (List.mem_erase_of_ne fun e => h1 (by rw [← e]; exact hy)).2 (hs y (List.mem_cons_of_mem _ hy))
    rw [List.length_erase_of_mem hx] at ih
    have := List.length_pos_of_mem hx
    rw [List.length_cons]
    omega
/-- how many different numbers -/
def dist (ns : List Int) : Nat := (PyProof.Rows.firstMet (fun i => ns.getD i 0) ns.length).length
section
variable {X : Cx} {K : PySem.W.Frag} {a : Expr} {ta : TE} {p p2 q pos : Pos}
/-- what is asked of len(set(xs)) is asked behind the set -/
theorem len_set_run {pins : List (Addr × Obj)} {s : Shared} {σ : L2.St} {H : Hp} {Q : VK} {w : V → Hp → VK → Prop} (hg : Gl X "len") (hm : X.mg "len" = none) (hg2 : Gl X "set") (hm2 : X.mg "set" = none) (ha : PE X a ta)
    (na : starEach [a] X.env = (false, eval a X.env) :: starEach [] X.env := by rfl) (J : Inv X pins σ H s) (h : ta σ H fun x H1 => w x H1 Q)
    (k : ∀ (x : V) (u : Value) (H1 : Hp) (s1 : Shared), Inv X pins σ H1 s1 → RelV x u → w x H1 Q → wpAny (model X.prog X.w) X.A (call (.type "set") [u]) (fun v s2 => wpAny (model X.prog X.w) X.A (call (.builtin "len") [v]) (EP X pins σ Q) X.xe s2) X.xe s1) :
    wpAny (model X.prog X.w) X.A (eval (.Call (.Name "len" p) [.Call (.Name "set" p2) [a] [] q] [] pos) X.env) (EP X pins σ Q) X.xe s := by
  refine Call_ (ld_blt J hg hm PySem.boot_len (PyProof.Rows.callWith_builtin1 (PyProof.Rows.args_cons ?_ rfl) rfl rfl))
  refine Call_ (ld_blt J hg2 hm2 PyProof.Rows.boot_set (PyProof.Rows.callWith_type1 (PyProof.Rows.args_cons (thn (ha.run pins s σ H _ J h) fun u s1 ⟨x, H1, J1, rx, w1⟩ => PyProof.Rows.args_nil ?_) na) na rfl))
  exact thn (k x u H1 s1 J1 rx w1) fun v s2 h2 => PyProof.Rows.args_nil h2
def wLenI (K : PySem.W.Frag) (x : V) (H : Hp) (Q : VK) : Prop := ∃ (l : Addr) (ns : List Int), x = .ref l ∧ SqL K H l (ns.map V.int) ∧ ns.length < 2000 ∧ Q (.int (dist ns)) H
def tLenI (K : PySem.W.Frag) (ta : TE) : TE := fun σ H Q => ta σ H fun x H1 => wLenI K x H1 Q
theorem pe_lenSet (hg : Gl X "len") (hm : X.mg "len" = none) (hg2 : Gl X "set") (hm2 : X.mg "set" = none) (ha : PE X a ta) (calm : X.calm = true) (hK : X.K = K := by rfl)
    (na : starEach [a] X.env = (false, eval a X.env) :: starEach [] X.env := by rfl) : PE X (.Call (.Name "len" p) [.Call (.Name "set" p2) [a] [] q] [] pos) (tLenI K ta) := by
  subst hK
  refine ⟨fun pins s σ H Q J h => len_set_run (w := wLenI X.K) hg hm hg2 hm2 ha na J h fun x u H1 s1 J1 rx ⟨l, ns, ex, hl, few, q⟩ => ?_⟩
  subst ex
  cases rx
  obtain ⟨its, rv, pl, _⟩ := J1.list hl
  have sz : its.toArray.size = ns.length := by rw [List.size_toArray, ← rv.length, List.length_map]
  refine call_set_list (J1.ok.hd calm) pl.isList (ns := ns) (by simpa using rv.ints) (by unfold scanBound; omega) fun h2 tk hS hk => ?_
  rw [sz] at hS
  obtain ⟨o, es, ep, t, ho, hex, hd, _, _, _, hf, hn⟩ := hS
  have J2 : Inv X pins σ H1 { s1 with heap := h2, toks := tk } := J1.kept fun b o e => hk b o (Heap.lt_size e) e
  have le : (PyProof.Rows.firstMet (fun i => ns.getD i 0) ns.length).length ≤ ns.length := PyProof.Rows.firstMet_length_le _ _
  exact call_len_set ho hex hd hf (by rw [hn]; omega) ⟨.int (dist ns), H1, J2.tok _, ⟨_, by rw [hn]; rfl⟩, q⟩
/-- .. of tuples of ints, all different -/
def wLenT (K : PySem.W.Frag) (x : V) (H : Hp) (Q : VK) : Prop := ∃ (l : Addr) (ks : List (Addr × List Int)), x = .ref l ∧ SqL K H l (ks.map fun p => V.ref p.1) ∧ (∀ p ∈ ks, SqT K H p.1 (p.2.map V.int)) ∧ ks.length < 64 ∧ (ks.map (·.2)).Nodup ∧ Q (.int ks.length) H
def tLenT (K : PySem.W.Frag) (ta : TE) : TE := fun σ H Q => ta σ H fun x H1 => wLenT K x H1 Q
theorem pe_lenSetT (hu : X.A.units + 64 < cLine) (hg : Gl X "len") (hm : X.mg "len" = none) (hg2 : Gl X "set") (hm2 : X.mg "set" = none) (ha : PE X a ta) (calm : X.calm = true) (hK : X.K = K := by rfl)
    (na : starEach [a] X.env = (false, eval a X.env) :: starEach [] X.env := by rfl) : PE X (.Call (.Name "len" p) [.Call (.Name "set" p2) [a] [] q] [] pos) (tLenT K ta) := by
  subst hK
  refine ⟨fun pins s σ H Q J h => len_set_run (w := wLenT X.K) hg hm hg2 hm2 ha na J h fun x u H1 s1 J1 rx ⟨l, ks, ex, hl, hk, few, nd, q⟩ => ?_⟩
  subst ex
  cases rx
  obtain ⟨its, rv, pl, _⟩ := J1.list hl
  refine call_set_tups (P := X.prog) (w := X.w) ks (J1.ok.hd calm) pl.isList (by simpa using refs_of_vals rv) (fun p hp => L2.Inv.isT J1 (hk p hp)) few (by omega) fun h2 tk L es ep t R g kp => ?_
  obtain ⟨o, ho, hex, hd⟩ := R.ob
  have J2 : Inv X pins σ H1 { s1 with heap := h2, toks := tk } := J1.kept fun b o e => kp b o e
  have len : L.length = ks.length := by
    have s1 : L.length ≤ ks.length := g.len
    have s2 : (ks.map (·.2)).length ≤ (L.map (·.2)).length := by
      have sub : ∀ x ∈ ks.map (·.2), x ∈ L.map (·.2) := fun x hx => by
        obtain ⟨p, hp, rfl⟩ := List.mem_map.mp hx
        exact g.all p (by rw [List.take_length]; exact hp)
      exact nodup_le nd sub
    rw [List.length_map, List.length_map] at s2
    omega
  have sz : es.size = ks.length := by rw [SetTR.size (s := { s1 with heap := h2 }) R, len]
  exact call_len_set ho hex hd (SetTR.fits (s := { s1 with heap := h2 }) R) (by rw [sz]; omega) ⟨.int ks.length, H1, J2.tok _, ⟨_, by rw [sz]⟩, q⟩
end
section
variable {C : Addr} {K : PySem.W.Frag} {ρ : Ro} {te ta tv to : TE} {t : TA} {d : DV} {U H : Hp} {σ : L2.St} {D : Ends} {tz : TS} {x dx : Addr} {fs : List (Str × V)} {f : Str}
theorem ev_lenI {ns : List Int} (h : Ev C ta ρ (.d (intsL ns))) (few : ns.length < 2000) : Ev C (tLenI K ta) ρ (iD (dist ns)) := fun σ U H L S Q q =>
  h σ U H L S _ fun v U1 H1 g1 r1 => by
    obtain ⟨p, vs, rfl, hp, t⟩ := Td.toLst r1
    have e := t.ints
    subst e
    exact ⟨p, ns, rfl, SqL.of (g1.uh _ _ hp), few, q _ U1 H1 g1 (.int _)⟩
theorem tups_of {U H : Hp} (S : Same U H) : ∀ {vs : List V} {rs : List (List Int)}, TdAll U vs (rs.map intsD) → ∃ ks : List (Addr × List Int), vs = ks.map (fun p => V.ref p.1) ∧ ks.map (·.2) = rs ∧ ∀ p ∈ ks, SqT K H p.1 (p.2.map V.int)
  | _, [], t => by
    cases t
    exact ⟨[], rfl, rfl, fun p hp => by cases hp⟩
  | _, r :: rs, t => by
    cases t with
    | cons a t =>
      obtain ⟨p, vs, rfl, hp, ti⟩ := Td.toTup a
      have e := ti.ints
      subst e
      obtain ⟨ks, h1, h2, h3⟩ := tups_of S t
      refine ⟨(p, r) :: ks, by rw [h1]; rfl, by rw [← h2]; rfl, fun q hq => ?_⟩
      rcases List.mem_cons.mp hq with rfl | hq
      · exact SqT.of (S _ _ hp)
      · exact h3 q hq
theorem ev_lenT {rs : List (List Int)} (h : Ev C ta ρ (.d (.list (rs.map intsD)))) (few : rs.length < 64) (nd : rs.Nodup) : Ev C (tLenT K ta) ρ (iD rs.length) := fun σ U H L S Q q =>
  h σ U H L S _ fun v U1 H1 g1 r1 => by
    obtain ⟨p, vs, rfl, hp, t⟩ := Td.toLst r1
    obtain ⟨ks, h1, h2, h3⟩ := tups_of (K := K) g1.uh t
    have el : ks.length = rs.length := by rw [← h2, List.length_map]
    refine ⟨p, ks, rfl, by rw [← h1]; exact SqL.of (g1.uh _ _ hp), h3, by omega, by rw [h2]; exact nd, ?_⟩
    rw [el]
    exact q _ U1 H1 g1 (.int _)
/-- o.f = e of a private object -/
theorem q_fld (L : Lo C U σ ρ) (S : Same U H) (hv : Ev C tv ρ d) (ho : Ev C to ρ (.adr x)) (hx : H x = some (.ins C dx fs)) (ux : U x = none) (hc : Cls K C) (hn : NoAttr K C f) (few : fs.length < 1000)
    (k : ∀ v U' H', Gr [x] U H U' H' → Rp C U' v d → U' x = none → H' x = some (.ins C dx (putF f v fs)) → Lo C U' σ ρ → tz D σ H') : tSeq (sFld K to tv f) tz D σ H := by
  show tv σ H _
  refine hv σ U H L S _ fun v U1 H1 g1 r1 => ?_
  refine ho σ U1 H1 (L.mono g1.uu) g1.uh _ fun o U2 H2 g2 r2 => ?_
  obtain rfl : o = .ref x := r2
  have g := g1.trans g2
  have hx2 : H2 x = some (.ins C dx fs) := g.hh _ _ hx (by simp)
  have ux2 : U2 x = none := g.none_u (by rw [hx]; intro z; cases z) ux
  exact ⟨x, C, dx, fs, rfl, hx2, hc, hn, few, k v U2 _ (g.any.trans (Gr.mut g.uh ux2 (by simp))) (r1.mono g2.uu) ux2 upd_same (L.mono g.uu)⟩
end
section
variable {X : Cx} {K : PySem.W.Frag} {o value : Expr} {f : Str} {pos pos' : Pos} {to tv : TE}
theorem fldS_K (h : X.K = K) (ho : PE X o to) (hv : PE X value tv) (hs : swapsWith value (some (.Attribute o f pos')) pos.line X.env = pure false) : PS X (.Assign [.Attribute o f pos'] value pos) (sFld K to tv f) := by
  subst h
  exact ps_fld ho hv hs
end
/-- a view grown while the object at x is made and told -/
structure GrX (x : Addr) (U H U' H' : Hp) : Prop where
  uu : Same U U'
  uh : Same U' H'
  hh : ∀ b o, H b = some o → b ≠ x → H' b = some o
  fr : ∀ b, H b ≠ none → b ≠ x → U' b = U b
  st : ∀ b, H b ≠ none → H' b ≠ none
theorem GrX.of {x : Addr} {o : HO} {U H U1 H1 U2 H2 : Hp} (a : Gr [x] U H U1 H1) (h1 : H1 x = some o) (u1 : U1 x = none) (b : Gr [] (upd U1 x o) H1 U2 H2) : GrX x U H U2 H2 :=
  ⟨a.uu.trans ((same_upd u1).trans b.uu), b.uh, fun c z h n => b.same _ _ (a.hh c z h (by simpa using n)), fun c h n => by rw [b.fr c (a.st c h), upd_ne n, a.fr c h], fun c h => b.st c (a.st c h)⟩
/-- Web(things, clubs, ties): what is asked of __init__ -/
def spInit (C : Addr) (pre : Nat → Nat → List (Nat × Nat) → Prop) (srt : List (Nat × Nat) → List (Nat × Nat)) : Sp := fun vs H Q _ => ∃ (n m : Nat) (ts : List (Nat × Nat)) (l : V) (x dx : Addr) (U : Hp), vs = [.ref x, .int n, .int m, l] ∧ Same U H ∧ Td U l (.list (ts.map pairD)) ∧ U x = none ∧ H x = some (.ins C dx []) ∧ pre n m ts ∧
  ∀ U' H', GrX x U H U' H' → Rp C U' (.ref x) (.web n m (srt ts)) → Q .non H'
structure HasWeb (P : Program) (w : World) (K : PySem.W.Frag) (mg : Str → Option Value) (base : Heap) (C : Addr) (k : Nat) (pre : Nat → Nat → List (Nat × Nat) → Prop) (srt : List (Nat × Nat) → List (Nat × Nat)) : Prop where
  ex : ∃ f fd, FnOk P w K mg base CX0 k f fd ["self", "things", "clubs", "ties"] (spInit C pre srt) ∧ Mk K C f ∧ mg "Web" = some (.ref C) ∧ Binds K fd ["self", "things", "clubs", "ties"] []
section
variable {X : Cx} {C : Addr} {k : Nat} {p pos : Pos} {e : Expr} {es : List Expr} {t : TA} {pre : Nat → Nat → List (Nat × Nat) → Prop} {srt : List (Nat × Nat) → List (Nat × Nat)} {ρ : Ro} {n m : Nat} {ts : List (Nat × Nat)}
theorem pe_web (F : HasWeb X.prog X.w X.K X.mg X.base C k pre srt) (hr : Room (k + 1) X.A) (hg : Gl X "Web") (ha : PA X (e :: es) t) (he : starEach (e :: es) X.env = (false, eval e X.env) :: starEach es X.env := by rfl) (hpl : (backTo pos (starEach es X.env)).any (·.1) = false := by rfl) :
    PE X (.Call (.Name "Web" p) (e :: es) [] pos) (tMake C (spInit C pre srt) [] E0 t) := by
  obtain ⟨f, fd, h1, h2, h3, h4⟩ := F.ex
  exact pe_make h2 h1 hr hg h3 h4 .nil pass0 ha (by decide) he hpl
theorem ev_web {E : XK} (h : EvA C t ρ [iD n, iD m, .d (.list (ts.map pairD))]) (hp : pre n m ts) : Ev C (tMake C (spInit C pre srt) [] E t) ρ (.web n m (srt ts)) := fun σ U H L S Q q =>
  h σ U H L S _ fun vs U1 H1 g1 r1 x dx hx hdx ne => by
    cases r1 with
    | cons a1 r1 =>
      cases r1 with
      | cons a2 r1 =>
        cases r1 with
        | cons a3 r1 =>
          cases r1
          cases Td.toInt a1
          cases Td.toInt a2
          have ux : U1 x = none := up_none g1.uh hx
          have gA : Gr [] U1 H1 U1 (upd H1 dx (.own x)) := Gr.priv g1.uh hdx
          have gB : Gr [] U1 H1 U1 (upd (upd H1 dx (.own x)) x (.ins C dx [])) := gA.trans (Gr.priv gA.uh (by rw [upd_ne (Ne.symm ne)]; exact hx))
          refine ⟨n, m, ts, _, x, dx, U1, rfl, gB.uh, a3, ux, upd_same, hp, fun U2 H2 g2 r2 => ⟨rfl, ?_⟩⟩
          have hx0 : H x = none := g1.same.free hx
          have gU : Gr [] U H U1 (upd (upd H1 dx (.own x)) x (.ins C dx [])) := g1.trans gB
          have ne0 : ∀ b, H b ≠ none → b ≠ x := fun b h e => h (by rw [e]; exact hx0)
          exact q _ U2 H2 ⟨gU.uu.trans g2.uu, g2.uh, fun b o h _ => g2.hh b o (gU.hh b o h (by simp)) (ne0 b (ne_none h)), fun b h => by rw [g2.fr b (gU.st b h) (ne0 b h), gU.fr b h], fun b h => g2.st b (gU.st b h)⟩ r2
end
end Kx
end
section
set_option Elab.async false
set_option linter.all false
set_option maxRecDepth 100000
set_option maxHeartbeats 4000000
/-! tuple * int, one time too; slices with a step. -/
namespace Kx
open PySem PySem.Spec L2
open PyProof.Rows
theorem tuple_once (l : Addr) (items : Array Value) (n : Nat) (dd : Option Addr) (sl : Array (Option Value)) (u : Tok) :
    Meets (Builtin.«tuple.__mul__» ⟨[.ref l, .int 1 u], []⟩) (fun _ R z => z.heap.get? l = some { cls := .type "tuple", dict := dd, data := .seq items n, slots := sl } ∧ R (.ok (.ret (Value.ref l))) z) :=
  .of_wp fun P W A R z hz => by
    obtain ⟨hh, g, d, tk, os⟩ := z
    obtain ⟨ho, hR⟩ := hz
    have fidx := AutoSeq1.idx_int
    wp_walk using AutoSeq1.wpAny_loadPart' ho
    repeat (first
      | (refine wpAny_ite_false (by decide) ?_; wp_walk using AutoSeq1.wpAny_loadPart' ho)
      | (refine wpAny_ite_true (by simp) ?_; wp_walk using AutoSeq1.wpAny_loadPart' ho))
    all_goals exact ⟨_, rfl, hR⟩
/-- xs * k, k from 1 on -/
def rRepX (K : PySem.W.Frag) : R2 := fun x y H Q => ∃ l k xs, x = .ref l ∧ y = .int k ∧ SqT K H l xs ∧ xs ≠ [] ∧ 1 ≤ k ∧ k ≤ 1000 ∧ xs.length ≤ 1000 ∧ (k = 1 → Q (.ref l) H) ∧ (2 ≤ k → ∀ p, H p = none → Q (.ref p) (upd H p (.tup (List.replicate k.toNat xs).flatten)))
theorem repT_K {X : Cx} {K : PySem.W.Frag} (hK : X.K = K := by rfl) : OpR X (binaryOp .Mult) (rRepX K) := by
  subst hK
  intro pins s σ H x y v u Q J rx ry ⟨l, k, xs, ex, ey, hT, hne, h1, h2, hz, q1, q2⟩
  by_cases hk : k = 1
  · subst ex ey hk
    obtain rfl : v = Value.ref l := rx
    obtain ⟨t, rfl⟩ := ry
    obtain ⟨its, r, ⟨⟨cls, dd, data, sl⟩, ho, hc, n, hd⟩, hs⟩ := J.tuple hT
    obtain rfl : cls = .type "tuple" := hc
    obtain rfl : data = .seq its.toArray n := hd
    refine wpAny_binaryOp_repeat_ref (T := "tuple") (U := "int") (by decide) ⟨_, ho, rfl⟩ (fun z => typeIs_int z 1 t) noFill_tuple_mul F.fills_int_mul F.slot_int_rmul repeat_tuple F.slot_int_index.lookup ?_
    refine call_meets F.slot_int_rmul (typeIs_int s 1 t) F.entry_int_rmul (F.args_int_rmul_2 _ _) (int_rmul_tuple 1 t l its.toArray n dd sl) ⟨ho, rfl, ⟨_, ho, rfl⟩, ?_⟩
    exact call_meets F.slot_tuple_mul ⟨_, ho, rfl⟩ F.entry_tuple_mul (F.args_tuple_mul_2 _ _) (tuple_once l its.toArray n dd sl t) ⟨ho, .ref l, H, J, rfl, q1 rfl⟩
  · exact op_repT pins s σ H x y v u Q J rx ry ⟨l, k, xs, ex, ey, hT, hne, by omega, h2, hz, q2 (by omega)⟩
theorem rv_repX {C : Addr} {K : PySem.W.Frag} {i : Int} {ds : List PyData} (h0 : ds ≠ []) (h1 : 1 ≤ i) (h2 : i ≤ 1000) (hl : ds.length ≤ 1000) : RV C (rRepX K) (.d (.tuple ds)) (iD i) (.d (.tuple (List.replicate i.toNat ds).flatten)) := fun U H x y S rx ry Q q => by
  obtain ⟨p, vs, rfl, hp, t⟩ := Td.toTup rx
  cases Td.toInt ry
  refine ⟨p, i, vs, rfl, rfl, SqT.of (S _ _ hp), fun e => ?_, h1, h2, by rw [t.length]; exact hl, fun e => ?_, fun _ l hl => ?_⟩
  · rw [e] at t
    exact h0 (List.length_eq_zero_iff.mp t.length.symm)
  · subst e
    have z : (List.replicate (1 : Int).toNat ds).flatten = ds := by simp
    rw [z] at q
    exact q _ U H (.refl S) (Td.tup hp t)
  · exact q _ _ _ (Gr.new S hl) (Td.tup upd_same ((t.rep _).mono (same_upd (up_none S hl))))
/-- the places of xs[lo::st] -/
def stepIx (n : Nat) (lo : Option Int) (st : Int) : List Nat := sliceRange (sliceBounds lo none (some st) n).1 (sliceBounds lo none (some st) n).2.1 (sliceBounds lo none (some st) n).2.2
def pickX {α : Type} (xs : List α) (lo : Option Int) (st : Int) : List α := (stepIx xs.length lo st).filterMap (xs[·]?)
theorem vals_pick : ∀ (ix : List Nat) {xs : List V} {us : List Value}, Vals xs us → Vals (ix.filterMap (xs[·]?)) (ix.filterMap (us[·]?))
  | [], _, _, _ => .nil
  | i :: ix, xs, us, r => by
    have ih := vals_pick ix r
    by_cases h : i < xs.length
    · have e1 : xs[i]? = some xs[i] := List.getElem?_eq_getElem h
      obtain ⟨u, e2, ru⟩ := r.get e1
      rw [List.filterMap_cons, List.filterMap_cons, e1, e2]
      exact .cons ru ih
    · have e1 : xs[i]? = none := List.getElem?_eq_none (by omega)
      have e2 : us[i]? = none := r.none_of e1
      rw [List.filterMap_cons, List.filterMap_cons, e1, e2]
      exact ih
theorem td_pick {U : Hp} : ∀ (ix : List Nat) {xs : List V} {ds : List PyData}, TdAll U xs ds → TdAll U (ix.filterMap (xs[·]?)) (ix.filterMap (ds[·]?))
  | [], _, _, _ => .nil
  | i :: ix, xs, ds, r => by
    have ih := td_pick ix r
    by_cases h : i < ds.length
    · have e1 : ds[i]? = some ds[i] := List.getElem?_eq_getElem h
      obtain ⟨u, e2, ru⟩ := r.get e1
      rw [List.filterMap_cons, List.filterMap_cons, e1, e2]
      exact .cons ru ih
    · have e1 : ds[i]? = none := List.getElem?_eq_none (by omega)
      have e2 : xs[i]? = none := List.getElem?_eq_none (by rw [r.length]; omega)
      rw [List.filterMap_cons, List.filterMap_cons, e1, e2]
      exact ih
def tSl2 (K : PySem.W.Frag) (te : TE) (tl ts : TO) : TE := fun σ H Q => te σ H fun x H1 => tl σ H1 fun lo H2 => ts σ H2 fun st H3 => ∃ a xs k, x = .ref a ∧ st = some k ∧ k ≠ 0 ∧ SqL K H3 a xs ∧ (pickX xs lo k).length ≤ sizeLine ∧ ∀ p, H3 p = none → Q (.ref p) (upd H3 p (.lst (pickX xs lo k)))
section
variable {X : Cx} {K : PySem.W.Frag} {e st : Expr} {lo : Option Expr} {te : TE} {tl ts : TO} {pos p2 : Pos}
theorem pe_sl2 (he : PE X e te) (hl : PO X lo tl) (hs : PO X (some st) ts) (hK : X.K = K := by rfl) : PE X (.Subscript e (.Slice lo none (some st) p2) pos) (tSl2 K te tl ts) := by
  subst hK
  refine ⟨fun pins s σ H Q J h => Subscript_ (thn (he.run pins s σ H _ J h) fun v s1 ⟨x, H1, J1, r1, q1⟩ => ?_)⟩
  refine wpAny_Slice (thn (hl.run pins s1 σ H1 _ J1 q1) fun vl s2 ⟨l, H2, J2, pl, q2⟩ => ?_)
  rw [evalPart_none]
  refine wpAny_pure (thn (hs.run pins s2 σ H2 _ J2 q2) fun vs s3 ⟨k0, H3, J3, ps, a, xs, k, ex, ek, k0', hx, few, q⟩ => ?_)
  subst ex ek
  obtain rfl : v = Value.ref a := r1
  have J4 : Inv X pins σ H3 { s3 with heap := s3.heap.push { cls := .type "slice", data := .fields #[vl, .none, vs] } } := J3.kept (t' := s3.toks) fun _ _ q => Heap.get?_push_of_some _ q
  obtain ⟨its, r, ht, hz⟩ := J4.list hx
  show wpAny (model X.prog X.w) X.A (subscriptTail e (.Slice lo none (some st) p2) (.ref a) (.ref s3.heap.objs.size)) (EP X pins σ Q) X.xe { s3 with heap := s3.heap.push { cls := .type "slice", data := .fields #[vl, .none, vs] } }
  refine tail_any (ops := [.ref a, .ref s3.heap.objs.size]) ht.isList.typeIs PySem.F.slot_list_getitem.lookup ?_ (by with_unfolding_all rfl)
  refine wpAny_getItem_list_slice ht.isList (Heap.IsSliceOf.new ..) pl .none ps (fun z => k0' (Option.some.inj z)) ?_ (by rw [List.size_toArray, ← r.length]; exact hz)
  have en : its.toArray.size = xs.length := by rw [List.size_toArray, r.length]
  have ep : slicePick its.toArray l none (some k) = ((stepIx xs.length l k).filterMap (its[·]?)).toArray := by
    unfold slicePick stepIx
    rw [en]
    simp
  rw [ep]
  refine ⟨.ref _, _, J4.laid (t' := s3.toks) (o := .lst (pickX xs l k)) (fun _ _ q => Heap.get?_push_of_some _ q) (Nat.le_refl _) ⟨few, _, 0, vals_pick _ r, Heap.get?_push_size _ rfl⟩, rfl, q _ (J4.hok.fresh (Nat.le_refl _))⟩
end
theorem evn_sl2 {C : Addr} {K : PySem.W.Frag} {ρ : Ro} {te : TE} {tl ts : TO} {ds : List PyData} {lo : Option Int} {k : Int} (h : Ev C te ρ (.d (.list ds))) (hl : EvO C tl ρ lo) (hs : EvO C ts ρ (some k)) (hk : k ≠ 0) (few : (pickX ds lo k).length ≤ 100000) :
    EvN C (tSl2 K te tl ts) ρ (pickX ds lo k) := fun σ U H L S Q q =>
  h σ U H L S _ fun v U1 H1 g1 r1 => hl σ U1 H1 (L.mono g1.uu) g1.uh _ fun U2 H2 g2 => hs σ U2 H2 (L.mono (g1.trans g2).uu) g2.uh _ fun U3 H3 g3 => by
    obtain ⟨p, vs, rfl, hp, t⟩ := Td.toLst (r1.mono (g2.trans g3).uu)
    have g := (g1.trans g2).trans g3
    have tp : TdAll U3 (pickX vs lo k) (pickX ds lo k) := by
      unfold pickX
      rw [t.length]
      exact td_pick _ t
    exact ⟨p, vs, k, rfl, rfl, hk, SqL.of (g3.uh _ _ hp), szle (by rw [tp.length]; exact few), fun l hl => q l _ U3 _ (g.trans (Gr.priv g3.uh hl)) (g.same.free hl) (up_none g3.uh hl) upd_same tp⟩
end Kx
end
section
set_option Elab.async false
set_option linter.all false
set_option maxRecDepth 100000
set_option maxHeartbeats 4000000
/-! Private lists read; while; pop. -/
namespace Kx
open PySem PySem.Spec L2
section
variable {C : Addr} {K : PySem.W.Frag} {ρ ρ' : Ro} {te ta tv to ti : TE} {tt : TT} {tu tw tz ts : TS} {D : Ends} {U H U2 U3 H3 : Hp} {σ : L2.St} {d : DV} {p : Addr} {i j : Nat} {z : Int} {c : PyData} {ds : List PyData} {b : Bool}
theorem Gr.back (S : Same U H) (a : Gr [] U2 H U3 H3) : Gr [] U H U H3 := ⟨.refl U, S.trans a.same, a.hh, fun _ _ => rfl, a.st⟩
/-- a private list shown for a while -/
theorem ML.show (m : ML U H p ds) (L : Lo C U σ ρ) (S : Same U H) (hi : ρ[i]? = some (some (.adr p))) : ∃ U2, Same U U2 ∧ Same U2 H ∧ Lo C U2 σ (ρ.set i (some (.d (.list ds)))) := by
  obtain ⟨h1, vs, h2, t⟩ := m
  refine ⟨upd U p (.lst vs), same_upd h1, fun b o e => ?_, (L.mono (same_upd h1)).adr hi (Td.lst upd_same (t.mono (same_upd h1)))⟩
  by_cases hb : b = p
  · subst hb; rw [upd_same] at e; rw [← e]; exact h2
  · rw [upd_ne hb] at e; exact S b o e
theorem evt_priv (i : Nat) (L : Lo C U σ ρ) (S : Same U H) (m : ML U H p ds) (hi : ρ[i]? = some (some (.adr p))) (h : EvT C tt (ρ.set i (some (.d (.list ds)))) b) {Q : Bool → Hp → Prop} (k : ∀ H', Gr [] U H U H' → Q b H') : tt σ H Q := by
  obtain ⟨U2, _, S2, L2⟩ := m.show L S hi
  exact h σ U2 H L2 S2 Q fun U3 H3 g => k H3 (g.back S)
theorem ev_privI (i : Nat) (L : Lo C U σ ρ) (S : Same U H) (m : ML U H p ds) (hi : ρ[i]? = some (some (.adr p))) (h : Ev C te (ρ.set i (some (.d (.list ds)))) (iD z)) {Q : VK} (k : ∀ H', Gr [] U H U H' → Q (.int z) H') : te σ H Q := by
  obtain ⟨U2, _, S2, L2⟩ := m.show L S hi
  refine h σ U2 H L2 S2 Q fun v U3 H3 g r => ?_
  cases Td.toInt r
  exact k H3 (g.back S)
theorem s_ifP (i : Nat) (L : Lo C U σ ρ) (S : Same U H) (m : ML U H p ds) (hi : ρ[i]? = some (some (.adr p))) (h : EvT C tt (ρ.set i (some (.d (.list ds)))) b) (h1 : b = true → ∀ H', Gr [] U H U H' → tu D σ H') (h2 : b = false → ∀ H', Gr [] U H U H' → tw D σ H') : tIfS tt tu tw D σ H :=
  evt_priv i L S m hi h fun H' g => by
    cases b with
    | true => exact iteT (h1 rfl H' g)
    | false => exact iteF (h2 rfl H' g)
theorem q_ifP (i : Nat) (L : Lo C U σ ρ) (S : Same U H) (m : ML U H p ds) (hi : ρ[i]? = some (some (.adr p))) (h : EvT C tt (ρ.set i (some (.d (.list ds)))) b) (h1 : b = true → ∀ H', Gr [] U H U H' → tu { D with nx := tz D } σ H') (h2 : b = false → ∀ H', Gr [] U H U H' → tz D σ H') : tSeq (tIfS tt tu tNext) tz D σ H :=
  s_ifP (D := { D with nx := tz D }) i L S m hi h h1 h2
theorem q_asgV (i : Nat) (L : Lo C U σ ρ) (S : Same U H) (m : ML U H p ds) (hi : ρ[i]? = some (some (.adr p))) (h : Ev C te (ρ.set i (some (.d (.list ds)))) (iD z)) (k : ∀ σ' H', Gr [] U H U H' → Lo C U σ' (ρ.set j (some (iD z))) → tz D σ' H') : tSeq (tAsg te (gName j)) tz D σ H :=
  show te σ H _ from ev_privI i L S m hi h fun H' g => k _ H' g (L.set (.int z))
theorem s_retPI (i : Nat) (L : Lo C U σ ρ) (S : Same U H) (m : ML U H p ds) (hi : ρ[i]? = some (some (.adr p))) (h : Ev C te (ρ.set i (some (.d (.list ds)))) (iD z)) (k : ∀ H', Gr [] U H U H' → D.rt (.int z) H') : tRet te D σ H :=
  show te σ H _ from ev_privI i L S m hi h k
/-- xs[k] = e, e read with xs shown -/
theorem q_setLP {jj : Nat} {zi : Int} (i : Nat) (L : Lo C U σ ρ) (S : Same U H) (m : ML U H p ds) (hi : ρ[i]? = some (some (.adr p))) (hv : Ev C tv (ρ.set i (some (.d (.list ds)))) (iD z)) (ho : Ev C to ρ (.adr p)) (hx : Ev C ti ρ (iD zi)) (hj : ixN ds.length zi = some jj)
    (k : ∀ U' H', Gr [p] U H U' H' → ML U' H' p (ds.set jj (.int z)) → Lo C U' σ ρ → tz D σ H') : tSeq (tAsg tv (gSub to ti rSetL)) tz D σ H := by
  show tv σ H _
  refine ev_privI i L S m hi hv fun H1 g1 => ?_
  show to σ H1 _
  refine ho σ U H1 L g1.uh _ fun o U2 H2 g2 r2 => ?_
  obtain rfl : o = .ref p := r2
  refine hx σ U2 H2 (L.mono g2.uu) g2.uh _ fun w U3 H3 g3 r3 => ?_
  cases Td.toInt r3
  have g := (g1.trans g2).trans g3
  obtain ⟨n3, vs3, h3, t3⟩ := m.step g (by simp)
  exact ⟨p, vs3, zi, jj, rfl, rfl, h3, by rw [t3.length]; exact hj, k U3 _ (g.any.trans (Gr.mut g3.uh n3 (by simp))) ⟨n3, _, upd_same, t3.set jj (.int z)⟩ (L.mono g.uu)⟩
/-- xs.append(e), e an int read with xs shown -/
theorem q_appP (i : Nat) (L : Lo C U σ ρ) (S : Same U H) (m : ML U H p ds) (hi : ρ[i]? = some (some (.adr p))) (hz : ds.length < 100000) (ha : Ev C ta ρ (.adr p)) (he : Ev C te (ρ.set i (some (.d (.list ds)))) (iD z)) (k : ∀ U' H', Gr [p] U H U' H' → ML U' H' p (ds ++ [.int z]) → Lo C U' σ ρ → tz D σ H') :
    tSeq (tDrop (tBM K "list" rAppend ta (tCons te tNil))) tz D σ H := by
  show (tBM K "list" rAppend ta (tCons te tNil)) σ H _
  refine ha σ U H L S _ fun v U1 H1 g1 r1 => ?_
  obtain rfl : v = .ref p := r1
  have m1 := m.step g1 (by simp)
  obtain ⟨n1, vs1, h1, t1⟩ := id m1
  refine ⟨.inl ⟨rfl, _, SqL.of h1⟩, ?_⟩
  show te σ H1 _
  refine ev_privI i (L.mono g1.uu) g1.uh m1 hi he fun H2 g2 => ?_
  obtain ⟨n2, vs2, h2, t2⟩ := m1.step g2 (by simp)
  exact ⟨p, vs2, .int z, rfl, rfl, h2, szlt (by rw [t2.length]; exact hz), k U1 _ ((g1.trans g2).any.trans (Gr.mut g2.uh n2 (by simp))) ⟨n2, _, upd_same, t2.snoc (.int z)⟩ (L.mono g1.uu)⟩
/-- xs.pop() -/
theorem s_pop (L : Lo C U σ ρ) (S : Same U H) (ha : Ev C ta ρ (.adr p)) (m : ML U H p ds) (hne : ds ≠ []) (k : ∀ U' H', Gr [p] U H U' H' → ML U' H' p ds.dropLast → Lo C U' σ ρ → D.nx σ H') : tDrop (tBM0 K "list" rPop ta) D σ H := by
  show (tBM0 K "list" rPop ta) σ H _
  refine ha σ U H L S _ fun v U1 H1 g1 r1 => ?_
  obtain rfl : v = .ref p := r1
  obtain ⟨n1, vs1, h1, t1⟩ := m.step g1 (by simp)
  have hl : vs1.length - 1 < vs1.length := by
    have := t1.length
    have := List.length_pos_iff.mpr hne
    omega
  exact ⟨.inl ⟨rfl, _, SqL.of h1⟩, p, vs1, vs1[vs1.length - 1], rfl, rfl, h1, List.getElem?_eq_getElem hl, k U1 _ (g1.any.trans (Gr.mut g1.uh n1 (by simp))) ⟨n1, _, upd_same, t1.init⟩ (L.mono g1.uu)⟩
/-- while: by a word with a measure; what is private at p shown to the test -/
theorem q_whileP (i : Nat) (bs : List PyData → Bool) (μ : List PyData → Nat) (next : List PyData → List PyData) (L : Lo C U σ ρ) (S : Same U H) (m : ML U H p ds) (hi : ρ[i]? = some (some (.adr p))) (Ok : List PyData → Prop) (ok : Ok ds)
    (ht : ∀ es, Ok es → EvT C tt (ρ.set i (some (.d (.list es)))) (bs es))
    (hb : ∀ es U1 H1 (E : Ends), Ok es → bs es = true → Lo C U1 σ ρ → Same U1 H1 → ML U1 H1 p es → (∀ U2 H2, Gr [p] U1 H1 U2 H2 → ML U2 H2 p (next es) → Lo C U2 σ ρ → E.nx σ H2) → tu E σ H1) (hm : ∀ es, Ok es → bs es = true → μ (next es) < μ es ∧ Ok (next es))
    (k : ∀ es U' H', Ok es → bs es = false → Gr [p] U H U' H' → ML U' H' p es → Lo C U' σ ρ → tz D σ H') : tSeq (tWhile tt tu) tz D σ H := by
  refine ⟨fun n σ' H' => σ = σ' ∧ ∃ es U', μ es = n ∧ Ok es ∧ Gr [p] U H U' H' ∧ ML U' H' p es ∧ Lo C U' σ ρ, ⟨_, rfl, ds, U, rfl, ok, .refl S, m, L⟩, ?_⟩
  rintro n σ' H' ⟨rfl, es, U1, hn, ok1, g1, m1, L1⟩
  refine evt_priv i L1 g1.uh m1 hi (ht es ok1) fun H2 g2 => ?_
  have g12 : Gr [p] U H U1 H2 := g1.trans g2.any
  cases hbs : bs es with
  | true =>
    refine iteT ⟨fun σ' H' => ∃ m', m' < n ∧ (σ = σ' ∧ ∃ es U', μ es = m' ∧ Ok es ∧ Gr [p] U H U' H' ∧ ML U' H' p es ∧ Lo C U' σ ρ), fun _ _ h => h, ?_⟩
    refine hb es U1 H2 _ ok1 hbs L1 g2.uh (m1.step g2 (by simp)) fun U3 H3 g3 m3 L3 => ?_
    obtain ⟨a, b⟩ := hm es ok1 hbs
    exact ⟨_, by omega, rfl, next es, U3, rfl, b, g12.trans g3, m3, L3⟩
  | false => exact iteF (k es U1 H2 ok1 hbs g12 (m1.step g2 (by simp)) L1)
end
end Kx
end
section
set_option Elab.async false
set_option linter.all false
set_option maxRecDepth 100000
set_option maxHeartbeats 4000000
/-! Tables of sets with masks up to 511: each element is found again from its hash. -/
namespace Kx
open PySem PySem.Spec L2
open PyProof.Rows
def MaskG (m : Nat) : Prop := m = 7 ∨ m = 31 ∨ m = 127 ∨ m = 511
/-- the round i → 5 i + 1 from x on, n places -/
def lapL (m : Nat) : Nat → Nat → List Nat
  | _, 0 => []
  | x, n + 1 => x :: lapL m ((x * 5 + 1) % (m + 1)) n
theorem lap_mem (m : Nat) : ∀ (n a j : Nat), j ∈ lapL m (lcgN m a) n → ∃ k, k < n ∧ lcgN m (a + k) = j
  | 0, _, _, h => by cases h
  | n + 1, a, j, h => by
    rcases List.mem_cons.mp h with e | h
    · exact ⟨0, Nat.succ_pos n, e.symm⟩
    · obtain ⟨k, hk, e⟩ := lap_mem m n (a + 1) j h
      exact ⟨k + 1, by omega, by rw [← e]; congr 1; omega⟩
theorem lap_511 : ((List.range 512).all fun j => (lapL 511 0 512).elem j) = true := by decide +kernel
theorem lap_all {m : Nat} (hm : MaskG m) {j : Nat} (hj : j ≤ m) : ∃ b, b ≤ m ∧ lcgN m b = j := by
  rcases hm with e | e | e | e
  · exact lcg_all (.inl e) hj
  · exact lcg_all (.inr (.inl e)) hj
  · exact lcg_all (.inr (.inr e)) hj
  · subst e
    have h := List.all_eq_true.mp lap_511 j (List.mem_range.mpr (by omega))
    obtain ⟨k, hk, e⟩ := lap_mem 511 512 0 j (List.elem_iff.mp h)
    exact ⟨k, by omega, by rw [← e]; congr 1; omega⟩
theorem lap_round {m : Nat} (hm : MaskG m) : lcgN m (m + 1) = 0 := by
  rcases hm with e | e | e | e
  · exact lcg_round (.inl e)
  · exact lcg_round (.inr (.inl e))
  · exact lcg_round (.inr (.inr e))
  · subst e
    decide +kernel
theorem lap_again {m : Nat} (hm : MaskG m) (k : Nat) : lcgN m (m + 1 + k) = lcgN m k := by
  have h := lcgN_add m (m + 1) k
  rw [lap_round hm] at h
  exact h.symm.trans ((lcgN_add m 0 k).trans (by rw [Nat.zero_add]))
/-- each place begins a run soon enough -/
theorem runs_all {m : Nat} (hm : MaskG m) (h : Int) {j : Nat} (hj : j ≤ m) : ∃ n, n ≤ m + 12 ∧ runI m (SetTable.bits h) n = j := by
  obtain ⟨a, ha, ea⟩ := lap_all hm (runI_le m (SetTable.bits h) 12)
  obtain ⟨b, hb, eb⟩ := lap_all hm hj
  have key : ∀ k, runI m (SetTable.bits h) (12 + k) = lcgN m (a + k) := fun k => by rw [runI_tail (bits_lt h), ← ea, lcgN_add]
  by_cases c : a ≤ b
  · exact ⟨12 + (b - a), by omega, by rw [key, ← eb]; congr 1; omega⟩
  · refine ⟨12 + (b + (m + 1) - a), by omega, ?_⟩
    rw [key, ← eb, ← lap_again hm b]
    congr 1
    omega
theorem walk_all {m : Nat} (hm : MaskG m) (h : Int) {j : Nat} (hj : j ≤ m) : ∃ k, k < 10 * SetTable.turns m ∧ way m h k = j := by
  obtain ⟨n, hn, e⟩ := runs_all hm h hj
  obtain ⟨k, hk, e2⟩ := run_nth m (SetTable.bits h) n
  refine ⟨k, ?_, (congrArg SetTable.Probe.j e2).trans e⟩
  unfold SetTable.turns
  omega
theorem walk_in (m : Nat) (h : Int) (k : Nat) : way m h k ≤ m := by
  have hi : SetTable.bits h % (m + 1) ≤ m := Nat.le_of_lt_succ (Nat.mod_lt _ (Nat.succ_pos m))
  have r := runEnd_bd hi
  have z : (runAt m (SetTable.bits h % (m + 1)) (SetTable.bits h)).j + (runAt m (SetTable.bits h % (m + 1)) (SetTable.bits h)).more ≤ m := by
    show SetTable.bits h % (m + 1) + (SetTable.runEnd m _ - SetTable.bits h % (m + 1)) ≤ m
    omega
  exact Nat.le_trans (Nat.le_add_right _ _) (nth_in k _ z)
/-- a table and the hashes of what stands in it -/
structure TabG (t : SetTable) (hs : List Int) : Prop where
  asc : Ris t.place.toList
  noD : t.dummies = #[]
  cnt : t.place.size = hs.length
  msk : MaskG t.mask
  inB : ∀ x ∈ t.place.toList, x ≤ t.mask
  fnd : ∀ (i : Nat) (h : Int) (j : Nat), hs[i]? = some h → t.place.toList[i]? = some j → ∃ k, way t.mask h k = j ∧ ∀ c, c < k → way t.mask h c ∈ t.place.toList
section
variable {t : SetTable} {hs : List Int}
theorem TabG.plen (T : TabG t hs) : t.place.toList.length = hs.length := by rw [Array.length_toList]; exact T.cnt
/-- the first free place of a way -/
theorem TabG.gap (T : TabG t hs) (few : hs.length ≤ t.mask) (h : Int) : ∃ K, K < 10 * SetTable.turns t.mask ∧ way t.mask h K ∉ t.place.toList ∧ ∀ c, c < K → way t.mask h c ∈ t.place.toList := by
  obtain ⟨j, hj, hn⟩ := st_missing t.place.toList (t.mask + 1) (by rw [T.plen]; omega)
  obtain ⟨k, hk, e⟩ := walk_all T.msk h (Nat.le_of_lt_succ hj)
  obtain ⟨K, h1, h2, h3⟩ := st_least (p := fun k => way t.mask h k ∉ t.place.toList) k (show way t.mask h k ∉ _ by rw [e]; exact hn)
  exact ⟨K, by omega, h2, fun c hc => Decidable.of_not_not (h3 c hc)⟩
theorem TabG.ahead (T : TabG t hs) {h : Int} {K i j : Nat} (hK : way t.mask h K ∉ t.place.toList) (hi : hs[i]? = some h) (hj : t.place.toList[i]? = some j) : ∃ k, k < K ∧ way t.mask h k = j := by
  obtain ⟨k, e, hb⟩ := T.fnd i h j hi hj
  refine ⟨k, Decidable.byContradiction fun c => ?_, e⟩
  rcases Nat.eq_or_lt_of_le (Nat.le_of_not_lt c) with c | c
  · exact hK (by rw [c, e]; exact List.mem_of_getElem? hj)
  · exact hK (hb K c)
/-- put in at the first free place -/
theorem TabG.ins (T : TabG t hs) {h : Int} {K p : Nat} {t2 : SetTable} (hK : way t.mask h K ∉ t.place.toList) (hb : ∀ c, c < K → way t.mask h c ∈ t.place.toList) (e : t.put (way t.mask h K) = (t2, p)) :
    p ≤ hs.length ∧ TabG t2 (hs.take p ++ h :: hs.drop p) ∧ t2.mask = t.mask ∧ t2.led = t.led ∧ t2.plain = t.plain ∧ t2.moves = t.moves ∧ t2.fill = hs.length + 1 := by
  generalize hj : way t.mask h K = j at hK e
  have ep : SetTable.below t.place j = p := congrArg Prod.snd e
  have e2 : (t.put j).1 = t2 := congrArg Prod.fst e
  obtain ⟨c1, _, _⟩ := below_cut T.asc j
  have lp : p ≤ t.place.toList.length := by rw [Array.length_toList, ← ep]; exact c1
  have lh : p ≤ hs.length := by rw [← T.plen]; exact lp
  have pl : t2.place.toList = t.place.toList.take p ++ j :: t.place.toList.drop p := by rw [← e2, put_place, ep]
  have d0 : t2.dummies = #[] := by rw [← e2]; exact put_dm T.noD j
  have sz : t2.place.size = hs.length + 1 := by rw [← Array.length_toList, pl, len_ins _ lp, T.plen]
  have m2 : t2.mask = t.mask := by rw [← e2]; rfl
  have old : ∀ {x : Nat}, x ∈ t.place.toList → x ∈ t2.place.toList := fun {x} hx => by rw [pl]; exact mem_ins.2 (.inr hx)
  have fresh : t.place[SetTable.below t.place j]? ≠ some j := fun z => hK (List.mem_of_getElem? (i := SetTable.below t.place j) (by rw [Array.getElem?_toList]; exact z))
  refine ⟨lh, ⟨?_, d0, by rw [sz, len_ins _ lh], by rw [m2]; exact T.msk, fun x hx => ?_, fun i h' j' h1 h2 => ?_⟩, m2, by rw [← e2]; rfl, by rw [← e2]; rfl, by rw [← e2]; rfl, ?_⟩
  · rw [← e2]
    exact ris_insert T.asc fresh
  · rw [pl] at hx
    rw [m2]
    rcases mem_ins.1 hx with z | z
    · rw [z, ← hj]
      exact walk_in _ _ _
    · exact T.inB x z
  · rw [tins_get _ lh] at h1
    rw [pl, tins_get _ lp] at h2
    rw [m2]
    by_cases c : i < p
    · rw [if_pos c] at h1 h2
      obtain ⟨k, ek, z⟩ := T.fnd i h' j' h1 h2
      exact ⟨k, ek, fun c hc => old (z c hc)⟩
    · rw [if_neg c] at h1 h2
      by_cases d : i = p
      · rw [if_pos d] at h1 h2
        have eh := Option.some.inj h1
        have ej := Option.some.inj h2
        subst eh ej
        exact ⟨K, hj, fun c hc => old (hb c hc)⟩
      · rw [if_neg d] at h1 h2
        obtain ⟨k, ek, z⟩ := T.fnd (i - 1) h' j' h1 h2
        exact ⟨k, ek, fun c hc => old (z c hc)⟩
  · show t2.place.size + t2.dummies.size = _
    rw [sz, d0]
    rfl
end
/-! ### laid anew -/
theorem lay_free {m : Nat} (hm : MaskG m) (owner : Array (Option Nat)) (h : Int) {j : Nat} (hj : j ≤ m) (hf : oAt owner j = none) :
    ∃ K, SetTable.layClean.free m owner (SetTable.turns m) (SetTable.bits h % (m + 1)) (SetTable.bits h) = some (way m h K) ∧ oAt owner (way m h K) = none ∧ ∀ c, c < K → oAt owner (way m h c) ≠ none := by
  obtain ⟨n, hn, e⟩ := runs_all hm h hj
  have at_j : way m h (off m (SetTable.bits h % (m + 1)) (SetTable.bits h) n) = j := by
    refine (congrArg SetTable.Probe.j (nth_off m n _ _)).trans ?_
    rw [itL_run]
    exact e
  obtain ⟨K, k1, k2, k3⟩ := st_least (p := fun c => oAt owner (way m h c) = none) (off m (SetTable.bits h % (m + 1)) (SetTable.bits h) n) (show oAt owner (way m h _) = none by rw [at_j]; exact hf)
  refine ⟨K, free_spec m owner _ n _ _ K (by unfold SetTable.turns; omega) k1 (fun c hc => ?_) ?_, k2, k3⟩
  · rw [Option.isNone_eq_false_iff]
    exact Option.isSome_iff_ne_none.mpr (k3 c hc)
  · rw [Option.isNone_iff_eq_none]
    exact k2
theorem lay_step {m : Nat} (hm : MaskG m) {done : List Int} {owner : Array (Option Nat)} (W : L2.Own m done owner) (few : done.length ≤ m) (h : Int) :
    ∃ j, SetTable.layClean.free m owner (SetTable.turns m) (SetTable.bits h % (m + 1)) (SetTable.bits h) = some j ∧ L2.Own m (done ++ [h]) (owner.setIfInBounds j (some done.length)) := by
  obtain ⟨ps, lps, hin⟩ := W.ps
  obtain ⟨j0, l0, n0⟩ := st_missing ps (m + 1) (by omega)
  have f0 : oAt owner j0 = none := Decidable.byContradiction fun z => n0 (hin j0 (by omega) z)
  obtain ⟨K, e1, e2, e3⟩ := lay_free hm owner h (Nat.le_of_lt_succ l0) f0
  generalize hj : way m h K = j at e1 e2
  have jm : j ≤ m := by rw [← hj]; exact walk_in m h K
  have here := oAt_set_self (owner := owner) (some done.length) (show j < owner.size by rw [W.sz]; omega)
  have grow : ∀ {i : Nat}, oAt owner i ≠ none → oAt (owner.setIfInBounds j (some done.length)) i ≠ none := fun {i} hi => by
    by_cases c : i = j
    · rw [c, here]; intro z; cases z
    · rw [oAt_set_ne _ c]; exact hi
  refine ⟨j, e1, by rw [Array.size_setIfInBounds]; exact W.sz, fun i k hi e => ?_, fun k hk => ?_, j :: ps, by simp [lps], fun i hi e => ?_⟩
  · by_cases c : i = j
    · rw [c, here] at e
      cases e
      exact ⟨h, K, by rw [List.getElem?_append_right (Nat.le_refl _), Nat.sub_self]; rfl, by rw [c]; exact hj, fun c' hc => grow (e3 c' hc)⟩
    · rw [oAt_set_ne _ c] at e
      obtain ⟨h', K', a1, a2, a3⟩ := W.at_ i k hi e
      exact ⟨h', K', by rw [List.getElem?_append_left (List.getElem?_eq_some_iff.mp a1).1]; exact a1, a2, fun c' hc => grow (a3 c' hc)⟩
  · by_cases c : k < done.length
    · obtain ⟨i, hi, e⟩ := W.all k c
      exact ⟨i, hi, by rw [oAt_set_ne _ fun z => by rw [z, e2] at e; cases e]; exact e⟩
    · have ek : k = done.length := by rw [List.length_append] at hk; simp at hk; omega
      exact ⟨j, jm, by rw [ek]; exact here⟩
  · by_cases c : i = j
    · rw [c]; exact List.mem_cons_self
    · rw [oAt_set_ne _ c] at e
      exact List.mem_cons_of_mem _ (hin i hi e)
theorem lay_fold {m : Nat} (hm : MaskG m) : ∀ (todo done : List Int) (owner : Array (Option Nat)), L2.Own m done owner → done.length + todo.length ≤ m →
    ∃ o2, todo.foldl (stepF m) (some (owner, done.length)) = some (o2, (done ++ todo).length) ∧ L2.Own m (done ++ todo) o2
  | [], done, owner, W, _ => ⟨owner, by rw [List.append_nil]; rfl, by rw [List.append_nil]; exact W⟩
  | h :: todo, done, owner, W, few => by
    rw [List.length_cons] at few
    obtain ⟨j, e, W1⟩ := lay_step hm W (by omega) h
    have l1 : (done ++ [h]).length = done.length + 1 := by simp
    obtain ⟨o2, f, W2⟩ := lay_fold hm todo (done ++ [h]) _ W1 (by omega)
    rw [List.append_assoc, l1] at f
    rw [List.append_assoc] at W2
    exact ⟨o2, by rw [List.foldl_cons, stepF_some e]; exact f, W2⟩
theorem lay_ok {m : Nat} (hm : MaskG m) {hs : Array Int} (few : hs.size ≤ m) : ∃ owner, SetTable.layClean m hs = some owner ∧ L2.Own m hs.toList owner := by
  obtain ⟨o2, f, W⟩ := lay_fold hm hs.toList [] _ (L2.Own.init m) (by simpa using few)
  exact ⟨o2, by rw [layClean_eq]; exact congrArg (Option.map (·.1)) f, W⟩
theorem relay_ok (t : SetTable) {hs : Array Int} {wanted M : Nat} (hw : SetTable.sizeAbove wanted - 1 = M) (hM : MaskG M) (few : hs.size ≤ M) :
    ∃ t2 order, t.relaid hs wanted = some (t2, order) ∧ order.toList.Perm (List.range hs.size) ∧ TabG t2 (order.toList.map fun i => hs.getD i 0) ∧ t2.mask = M ∧ t2.led = t.led ∧ t2.plain = t.plain := by
  obtain ⟨owner, e, W⟩ := lay_ok hM few
  have hr : t.relaid hs wanted = some (tabOf t M owner, ((liveOf M owner).map (·.2)).toArray) := by rw [relaid_eq, hw, e]; rfl
  obtain ⟨r1, r2⟩ : Ris ((liveOf M owner).map (·.1)) ∧ ∀ x ∈ (liveOf M owner).map (·.1), x ∈ List.range (M + 1) := ris_live (fun j => owner.getD j none) (List.range (M + 1)) List.pairwise_lt_range
  have live : ∀ {j k : Nat}, (j, k) ∈ liveOf M owner ↔ j ≤ M ∧ oAt owner j = some k := mem_live W.sz
  have allK : ∀ k, k < hs.size → k ∈ (liveOf M owner).map (·.2) := fun k hk => by
    obtain ⟨j, b1, b2⟩ := W.all k (by rw [Array.length_toList]; exact hk)
    exact List.mem_map.mpr ⟨(j, k), live.2 ⟨b1, b2⟩, rfl⟩
  have len : (liveOf M owner).length = hs.size := by
    obtain ⟨ps, p1, p2⟩ := W.ps
    have nd : ((liveOf M owner).map (·.1)).Nodup := List.Pairwise.imp (fun z => Nat.ne_of_lt z) r1
    have a := nat_nodup_len ((liveOf M owner).map (·.1)) ps nd fun x hx => by
      obtain ⟨⟨y, k⟩, hq, rfl⟩ := List.mem_map.mp hx
      obtain ⟨b1, b2⟩ := live.1 hq
      exact p2 y b1 (by rw [b2]; intro z; cases z)
    have b := nat_nodup_len (List.range hs.size) ((liveOf M owner).map (·.2)) List.nodup_range fun k hk => allK k (List.mem_range.mp hk)
    rw [List.length_map, p1] at a
    rw [List.length_map, List.length_range] at b
    have : hs.toList.length = hs.size := rfl
    omega
  refine ⟨_, _, hr, perm_range hs.size _ ((List.length_map ..).trans len) allK, ⟨r1, rfl, by simp [tabOf], hM, fun x hx => Nat.le_of_lt_succ (List.mem_range.mp (r2 x hx)), fun i h j h1 h2 => ?_⟩, rfl, rfl, rfl⟩
  have h1' : (((liveOf M owner).map (·.2)).map fun i => hs.getD i 0)[i]? = some h := h1
  have h2' : ((liveOf M owner).map (·.1))[i]? = some j := h2
  rw [List.getElem?_map] at h2'
  obtain ⟨⟨y, k⟩, hq, ej⟩ := Option.map_eq_some_iff.mp h2'
  have ej : y = j := ej
  subst ej
  rw [List.getElem?_map, List.getElem?_map, hq] at h1'
  have eh : hs.getD k 0 = h := Option.some.inj h1'
  obtain ⟨b1, b2⟩ := live.1 (List.mem_of_getElem? hq)
  obtain ⟨h0, K, a1, a2, a3⟩ := W.at_ y k b1 b2
  have e0 : h0 = h := by
    rw [← eh, Array.getD_eq_getD_getElem?, ← Array.getElem?_toList, a1]
    rfl
  subst e0
  refine ⟨K, a2, fun c hc => ?_⟩
  obtain ⟨k2, z⟩ := Option.ne_none_iff_exists'.mp (a3 c hc)
  exact List.mem_map.mpr ⟨(way M h0 c, k2), live.2 ⟨walk_in M h0 c, z⟩, rfl⟩
theorem grow5 : SetTable.sizeAbove (SetTable.grown 5) = 32 := by decide +kernel
theorem grow19 : SetTable.sizeAbove (SetTable.grown 19) = 128 := by decide +kernel
theorem grow77 : SetTable.sizeAbove (SetTable.grown 77) = 512 := by decide +kernel
end Kx
end
section
set_option Elab.async false
set_option linter.all false
set_option maxRecDepth 100000
set_option maxHeartbeats 4000000
/-! Sets of tuples of any kind, up to 300 of them: search, add. -/
namespace Kx
open PySem PySem.Spec L2
open PyProof.Rows
/-- what a set asks of its elements, tuples at addresses -/
structure SKey (P : Program) (w : World) (κ : Type) [DecidableEq κ] where
  is : Heap → κ → Addr → Prop
  hash : κ → Int
  draws : κ → Nat
  stay : ∀ {h h' : Heap} {k : κ} {a : Addr}, (∀ b o vs n, h.get? b = some o → o.data = .seq vs n → h'.get? b = some o) → is h k a → is h' k a
  seq : ∀ {h : Heap} {k : κ} {a : Addr}, is h k a → ∃ o vs n, h.get? a = some o ∧ o.data = .seq vs n
  doHash : ∀ {A : Around} {E : Value → Shared → Prop} {s : Shared} {k : κ} {a : Addr} {Q : Int → Shared → Prop}, A.units + 8 < cLine → is s.heap k a → Q (hash k) { s with toks := s.toks + draws k } → wpAny (model P w) A (pyHash (.ref a)) Q E s
  doEq : ∀ {A : Around} {E : Value → Shared → Prop} {s : Shared} {x y : κ} {a b : Addr} {Q : Bool → Shared → Prop}, A.units + 8 < cLine → is s.heap x a → is s.heap y b → Q (decide (x = y)) s → wpAny (model P w) A (eqBool (.ref a) (.ref b)) Q E s
  quiet : ∀ {A : Around} {E : Value → Shared → Prop} {s : Shared} {k : κ} {a : Addr} {Q : Bool → Shared → Prop}, is s.heap k a → Q true s → wpAny (model P w) A (eqIsQuiet 8 (.ref a)) Q E s
  noCls : ∀ {A : Around} {E : Value → Shared → Prop} {s : Shared} {k : κ} {a : Addr} {Q : Bool → Shared → Prop}, is s.heap k a → Q false s → wpAny (model P w) A (ofAClassStatement 8 (.ref a)) Q E s
  byVal : ∀ {A : Around} {E : Value → Shared → Prop} {s : Shared} {k : κ} {a : Addr} {Q : Bool → Shared → Prop}, is s.heap k a → Q true s → wpAny (model P w) A (hashByValue 8 (.ref a)) Q E s
section
variable {P : Program} {w : World} {κ : Type} [DecidableEq κ] {kd : SKey P w κ} {A : Around} {E : Value → Shared → Prop} {s : Shared}
theorem not_seen {k : κ} {b : Addr} {Q : Bool → Shared → Prop} (hb : kd.is s.heap k b) {ys : List Value} (hy : ∀ y ∈ ys, ∃ k' c, y = Value.ref c ∧ kd.is s.heap k' c) (h : Q false s) : wpAny (model P w) A (searchCouldBeSeen (.ref b) ys) Q E s := by
  unfold searchCouldBeSeen
  refine wpAny_bind (wpAny_forIn_list _ (fun todo r z => r.1 = none ∧ z = s ∧ ∀ y ∈ todo, ∃ k' c, y = Value.ref c ∧ kd.is s.heap k' c) _ ?_ ?_ _ _ ⟨rfl, rfl, hy⟩)
  · rintro v todo r z ⟨hr, rfl, all⟩
    obtain ⟨k', c, rfl, hc⟩ := all v List.mem_cons_self
    have more : ∀ y ∈ todo, ∃ k' c, y = Value.ref c ∧ kd.is z.heap k' c := fun u hu => all u (List.mem_cons_of_mem _ hu)
    dsimp only
    by_cases hv : (b == c || (carriedByValue (.ref b) && carriedByValue (.ref c))) = true
    · exact wp_if_pos hv (wpAny_pure ⟨rfl, rfl, more⟩)
    · refine wp_if_neg hv (wpAny_bind (kd.quiet hb ?_))
      simp only [Bool.not_true, Bool.false_eq_true, if_false]
      refine wpAny_bind (kd.quiet hc ?_)
      simp only [Bool.not_true, Bool.false_eq_true, if_false]
      refine wpAny_bind (kd.noCls hb ?_)
      simp only [Bool.false_eq_true, if_false]
      refine wpAny_bind (kd.noCls hc ?_)
      simp only [Bool.false_eq_true, if_false]
      exact wpAny_pure ⟨rfl, rfl, more⟩
  · rintro ⟨r1, r2⟩ z ⟨hr, rfl, _⟩
    obtain rfl : r1 = none := hr
    exact wpAny_pure h
def rowsG (kd : SKey P w κ) (L : List (Addr × κ)) : List (Int × Value) := L.map fun p => (kd.hash p.2, Value.ref p.1)
/-- the set at a has the elements L, in the order of their places -/
structure SetG (kd : SKey P w κ) (h : Heap) (a : Addr) (L : List (Addr × κ)) (es : Array (Int × Value)) (ep : Nat) (t : SetTable) : Prop where
  obj : ∃ o, h.get? a = some o ∧ o.ExactSet ∧ o.data = .set es ep t
  rows : es.toList = rowsG kd L
  tab : TabG t (L.map fun p => kd.hash p.2)
  nd : (L.map (·.2)).Nodup
  keys : ∀ p ∈ L, kd.is h p.2 p.1
  plain : t.plain = true
  led : w.params.followText "set-order" = true ∨ t.led = true
  room : L.length * 5 < t.mask * 3
  few : L.length ≤ 300
theorem rows_size {L : List (Addr × κ)} {es : Array (Int × Value)} (h : es.toList = rowsG kd L) : es.size = L.length := by
  have e := congrArg List.length h
  rw [Array.length_toList] at e
  exact e.trans (List.length_map ..)
variable {a : Addr} {L : List (Addr × κ)} {es : Array (Int × Value)} {ep : Nat} {t : SetTable} {x : Addr} {k : κ}
theorem fits_of {n : Nat} (h1 : t.place.size = n) (h2 : t.dummies = #[]) (h3 : n ≤ t.mask) : t.fits n = true := by
  unfold SetTable.fits SetTable.fill
  rw [h2, Bool.and_eq_true, beq_iff_eq, decide_eq_true_eq]
  exact ⟨h1, by show t.place.size + 0 ≤ t.mask; omega⟩
theorem SetG.fits {h : Heap} (R : SetG kd h a L es ep t) : t.fits es.size = true := by
  have h1 := R.tab.cnt
  have h2 := R.room
  rw [List.length_map] at h1
  have h3 := rows_size R.rows
  exact fits_of (by omega) R.tab.noD (by omega)
theorem SetG.at {h : Heap} (R : SetG kd h a L es ep t) {i : Nat} {p : Addr × κ} (e : L[i]? = some p) : es[i]? = some (kd.hash p.2, Value.ref p.1) := by
  rw [← Array.getElem?_toList, R.rows]
  unfold rowsG
  rw [List.getElem?_map, e]
  rfl
abbrev stand (m : Nat) (h : Int) (c : Nat) : SetTable.Probe := nth m (runAt m (SetTable.bits h % (m + 1)) (SetTable.bits h)) c
theorem stand_noD (m : Nat) (h : Int) : ∀ c, (stand m h c).dummy = none
  | 0 => rfl
  | c + 1 => by
    show (nth m _ (c + 1)).dummy = none
    rw [nth_succ]
    unfold adv
    split <;> exact stand_noD m h c
theorem stand_add (m : Nat) (h : Int) (c q : Nat) : nth m (stand m h c) q = stand m h (c + q) := (nth_add m c _ q).symm
/-- the search, from the c-th step on; K: the first free place of the way -/
theorem seek (R : SetG kd s.heap a L es ep t) (hx : kd.is s.heap k x) (hu : A.units + 8 < cLine) {K : Nat} (hKf : K < 10 * SetTable.turns t.mask) (hK : way t.mask (kd.hash k) K ∉ t.place.toList) (hKb : ∀ c, c < K → way t.mask (kd.hash k) c ∈ t.place.toList)
    {Q : SetFound → Shared → Prop} (yes : k ∈ L.map (·.2) → Q (.there none) s) (no : k ∉ L.map (·.2) → Q (.free (way t.mask (kd.hash k) K) false) s) :
    ∀ (f c : Nat) (st : Option SetTable.Probe), st.getD (t.probeStart (kd.hash k)) = stand t.mask (kd.hash k) c → c ≤ K → K - c < f → (∀ (i : Nat) p, L[i]? = some p → p.2 = k → ∃ c', c ≤ c' ∧ c' < K ∧ t.place.toList[i]? = some (way t.mask (kd.hash k) c')) →
      wpAny (model P w) A (setSearchFrom a (.ref x) (kd.hash k) true f st) Q E s
  | 0, _, _, _, _, hf, _ => absurd hf (Nat.not_lt_zero _)
  | f + 1, c, st, hst, hc, hf, hre => by
    obtain ⟨o, ho, hex, hd⟩ := R.obj
    have odd : ¬ t.gaveWay = true := by
      unfold SetTable.gaveWay
      rcases R.tab.msk with e | e | e | e <;> rw [e] <;> decide
    rw [setSearchFrom_succ]
    refine wpAny_bind (wpAny_setState_of ho hd R.fits ?_)
    dsimp only
    refine wp_if_neg odd ?_
    try refine wpAny_bind (wpAny_pure ?_)
    have hashAt : ∀ (i : Nat) p, L[i]? = some p → (es[i]?.map (·.1)).getD 0 = kd.hash p.2 := fun i p hp => by rw [R.at hp]; rfl
    have cut : c + (K - c) = K := by omega
    have wj : ∀ q, (nth t.mask (stand t.mask (kd.hash k) c) q).j = way t.mask (kd.hash k) (c + q) := fun q => congrArg SetTable.Probe.j (stand_add t.mask (kd.hash k) c q)
    rcases go_spec t R.tab.asc R.tab.noD (fun i => (es[i]?.map (·.1)).getD 0) (kd.hash k) (10 * SetTable.turns t.mask) (K - c) (stand t.mask (kd.hash k) c) (stand_noD _ _ _) (by omega)
      (fun q hq => by rw [wj]; exact hKb (c + q) (by omega)) (by rw [wj, cut]; exact hK) with ⟨q, i, hq, hi, hh, hno, hpr⟩ | ⟨hno, hpr⟩
    · rw [wj] at hi
      rw [wj, stand_add] at hpr
      have found : t.probe (fun i => (es[i]?.map (·.1)).getD 0) (kd.hash k) (st.getD (t.probeStart (kd.hash k))) = some (.candidate (way t.mask (kd.hash k) (c + q)) i (stand t.mask (kd.hash k) (c + (q + 1)))) := by rw [hst]; exact hpr
      rw [found]
      dsimp only
      have hil : i < L.length := by
        have h1 : i < t.place.toList.length := (List.getElem?_eq_some_iff.mp hi).1
        rw [R.tab.plen, List.length_map] at h1
        exact h1
      obtain ⟨p, hp⟩ : ∃ p, L[i]? = some p := ⟨_, List.getElem?_eq_getElem hil⟩
      have hm : p ∈ L := List.mem_of_getElem? hp
      have live : t.slot (way t.mask (kd.hash k) (c + q)) = .live i := slot_live R.tab.asc hi
      have onward : wpAny (model P w) A (searchRest a (.ref x) (kd.hash k) true f es t (way t.mask (kd.hash k) (c + q)) i (stand t.mask (kd.hash k) (c + (q + 1)))) Q E s := by
        unfold searchRest
        rw [R.at hp]
        dsimp only
        refine wpAny_bind (wpAny_holding (kd.doEq hu (R.keys p hm) hx (wpAny_bind (wpAny_setState_of ho hd R.fits ?_))))
        dsimp only
        by_cases same : p.2 = k
        · exact wp_if_pos (by simp [same]) (wpAny_pure (yes (List.mem_map.mpr ⟨p, hm, same⟩)))
        · refine wp_if_neg (by simp [same]) ?_
          try refine wpAny_bind (wpAny_pure ?_)
          rw [sameMem]
          dsimp only
          simp only [if_true, live, R.at hp]
          refine wpAny_bind (wpAny_isSame_ref_self (wpAny_bind (wpAny_pure ?_)))
          simp only [if_true]
          refine wp_if_neg (by simp [same]) (seek R hx hu hKf hK hKb yes no f (c + (q + 1)) _ rfl (by omega) (by omega) fun j p' hj e => ?_)
          obtain ⟨c', a1, a2, a3⟩ := hre j p' hj e
          refine ⟨c', Decidable.byContradiction fun z => ?_, a2, a3⟩
          by_cases z2 : c' = c + q
          · rw [z2] at a3
            have live2 := slot_live R.tab.asc a3
            rw [live] at live2
            have ij : i = j := by injection live2
            rw [← ij, hp] at hj
            exact same ((congrArg Prod.snd (Option.some.inj hj)).trans e)
          · have e2 : c + (c' - c) = c' := by omega
            exact hno (c' - c) j (by omega) (by rw [wj, e2]; exact a3) ((hashAt j p' hj).trans (congrArg kd.hash e))
      by_cases led : t.led = true
      · refine wp_if_neg (by simp [led]) ?_
        try refine wpAny_bind (wpAny_pure ?_)
        exact onward
      · refine wp_if_pos (by simp [led]) (wpAny_bind (not_seen hx (fun y hy => ?_) ?_))
        · obtain ⟨e, he, rfl⟩ := List.mem_map.mp hy
          have he2 : e ∈ es.toList := by
            have z : e ∈ es ∧ e.1 = kd.hash k := by simpa using he
            simpa using z.1
          rw [R.rows] at he2
          obtain ⟨p2, hp2, rfl⟩ := List.mem_map.mp he2
          exact ⟨p2.2, p2.1, rfl, R.keys p2 hp2⟩
        · refine wp_if_neg (by decide) ?_
          try refine wpAny_bind (wpAny_pure ?_)
          exact onward
    · rw [wj, cut] at hpr
      have found : t.probe (fun i => (es[i]?.map (·.1)).getD 0) (kd.hash k) (st.getD (t.probeStart (kd.hash k))) = some (.empty (way t.mask (kd.hash k) K) none) := by rw [hst]; exact hpr
      rw [found]
      dsimp only
      refine wpAny_pure (no fun hm => ?_)
      obtain ⟨p0, h0, e0⟩ := List.mem_map.mp hm
      obtain ⟨j, hj⟩ := List.getElem?_of_mem h0
      obtain ⟨c', a1, a2, a3⟩ := hre j p0 hj e0
      have e2 : c + (c' - c) = c' := by omega
      exact hno (c' - c) j (by omega) (by rw [wj, e2]; exact a3) ((hashAt j p0 hj).trans (congrArg kd.hash e0))
theorem seek_all (R : SetG kd s.heap a L es ep t) (hx : kd.is s.heap k x) (hu : A.units + 8 < cLine) {Q : SetFound → Shared → Prop} (yes : k ∈ L.map (·.2) → Q (.there none) s)
    (no : ∀ K, k ∉ L.map (·.2) → way t.mask (kd.hash k) K ∉ t.place.toList → (∀ c, c < K → way t.mask (kd.hash k) c ∈ t.place.toList) → Q (.free (way t.mask (kd.hash k) K) false) s) : wpAny (model P w) A (setSearch a (.ref x) (kd.hash k) true) Q E s := by
  have hr := R.room
  obtain ⟨K, hKf, hK, hKb⟩ := R.tab.gap (by rw [List.length_map]; omega) (kd.hash k)
  have small : K < 100000 := by
    have : 10 * SetTable.turns t.mask ≤ 5260 := by
      unfold SetTable.turns
      rcases R.tab.msk with e | e | e | e <;> omega
    omega
  unfold setSearch
  refine seek R hx hu hKf hK hKb yes (fun n => no K n hK hKb) 100000 0 none rfl (Nat.zero_le _) (by omega) fun i p hp e => ?_
  have hil : i < t.place.toList.length := by rw [R.tab.plen, List.length_map]; exact (List.getElem?_eq_some_iff.mp hp).1
  have hj := List.getElem?_eq_getElem hil
  obtain ⟨c, hc, ec⟩ := R.tab.ahead hK (h := kd.hash k) (i := i) (by rw [List.getElem?_map, hp, ← e]; rfl) hj
  exact ⟨c, Nat.zero_le _, hc, by rw [hj, ec]⟩
/-- the elements stay when the set's object changes -/
theorem key_same {h h' : Heap} {b : Addr} {o : Obj} (hb : kd.is h k b) (ho : h.get? a = some o) (hd : o.data = .set es ep t) (hs : Heap.SameBut a h h') : kd.is h' k b := by
  refine kd.stay (fun c oc vs n hc hv => ?_) hb
  have ne : c ≠ a := fun e => by
    rw [e, ho] at hc
    cases hc
    rw [hd] at hv
    cases hv
  exact (hs.2 c ne).trans hc
/-- the table laid anew, larger -/
theorem relayG {o : Obj} {wanted M : Nat} (ho : s.heap.get? a = some o) (hex : o.ExactSet) (hd : o.data = .set es ep t) (rows : es.toList = rowsG kd L) (hfit : t.fits es.size = true) (nd : (L.map (·.2)).Nodup) (keys : ∀ p ∈ L, kd.is s.heap p.2 p.1)
    (pl : t.plain = true) (ld : w.params.followText "set-order" = true ∨ t.led = true) (few : L.length ≤ 300) (hw : SetTable.sizeAbove wanted - 1 = M) (hM : MaskG M) (hw2 : SetTable.sizeAbove wanted ≤ 512) (room : L.length * 5 < M * 3)
    {Q : Unit → Shared → Prop} (hQ : ∀ h2 L2 es2 ep2 t2, Heap.SameBut a s.heap h2 → SetG kd h2 a L2 es2 ep2 t2 → L2.Perm L → Q () { s with heap := h2 }) : wpAny (model P w) A (setRelay a wanted) Q E s := by
  have hsl := rows_size rows
  obtain ⟨t2, order, e, pm, T, em, el, epl⟩ := relay_ok t (hs := es.map (·.1)) hw hM (by rw [Array.size_map]; omega)
  rw [Array.size_map, hsl] at pm
  -- the rows in their new order
  have inL : ∀ i ∈ order.toList, i < L.length := fun i hi => List.mem_range.mp (pm.mem_iff.mp hi)
  have ent : ∀ i (h : i < L.length), es[i]? = some (kd.hash (L[i]).2, Value.ref (L[i]).1) := fun i h => by
    rw [← Array.getElem?_toList, rows]
    unfold rowsG
    rw [List.getElem?_map, List.getElem?_eq_getElem h]
    rfl
  have sel : ∀ l : List Nat, (∀ i ∈ l, i < L.length) → l.filterMap (fun i => es[i]?) = rowsG kd (l.filterMap fun i => L[i]?) ∧ ((l.filterMap fun i => L[i]?).map fun p => kd.hash p.2) = l.map fun i => (es.map (·.1)).getD i 0 := fun l => by
    induction l with
    | nil => exact fun _ => ⟨rfl, rfl⟩
    | cons i l ih =>
      intro hl
      have hi := hl i List.mem_cons_self
      obtain ⟨e1, e2⟩ := ih fun j hj => hl j (List.mem_cons_of_mem _ hj)
      have eh : (es.map (·.1)).getD i 0 = kd.hash (L[i]).2 := by
        rw [Array.getD_eq_getD_getElem?, Array.getElem?_map, ent i hi]
        rfl
      rw [List.filterMap_cons_some (ent i hi), List.filterMap_cons_some (List.getElem?_eq_getElem hi), e1, List.map_cons, e2, List.map_cons, eh]
      exact ⟨rfl, rfl⟩
  obtain ⟨s1, s2⟩ := sel order.toList inL
  generalize hL2 : (order.toList.filterMap fun i => L[i]?) = L2 at s1 s2
  have permL : L2.Perm L := by
    have h1 : ∀ n, n ≤ L.length → (List.range n).filterMap (fun i => L[i]?) = L.take n := fun n => by
      induction n with
      | zero => exact fun _ => rfl
      | succ n ih =>
        intro hn
        have hlt : n < L.length := hn
        rw [List.range_succ, List.filterMap_append, ih (Nat.le_of_lt hlt), take_succ_at (List.getElem?_eq_getElem hlt), List.filterMap_cons_some (List.getElem?_eq_getElem hlt)]
        rfl
    have h2 := pm.filterMap fun i => L[i]?
    rw [hL2, h1 L.length (Nat.le_refl _), List.take_length] at h2
    exact h2
  rw [← s2] at T
  have rows2 : (order.filterMap (es[·]?)).toList = rowsG kd L2 := by
    rw [Array.toList_filterMap]
    exact s1
  have hs2 : (order.filterMap (es[·]?)).size = es.size := by rw [rows_size rows2, permL.length_eq, hsl]
  rw [setRelay_eq]
  refine wpAny_bind (wpAny_setState_of ho hd hfit ?_)
  dsimp only
  refine wp_if_neg (by rw [sizeLine_eq]; omega) ?_
  try refine wpAny_bind (wpAny_pure ?_)
  rw [e]
  dsimp only
  refine wpAny_bind (wp_if_neg (by rw [hs2]; simp) ?_)
  try refine wpAny_bind (wpAny_pure ?_)
  refine wpAny_pure ?_
  dsimp only
  refine wpAny_storeSet_of ho hd ?_ (by rw [hs2, hsl, sizeLine_eq]; omega)
  have sb : Heap.SameBut a s.heap (s.heap.update a (Obj.putSet (order.filterMap (es[·]?)) t2)) := Heap.SameBut.update ..
  exact hQ _ L2 _ (ep + 1) t2 sb ⟨⟨_, store_at ho hd, ⟨hex.1, hex.2.1, hex.2.2⟩, rfl⟩, rows2, T, (permL.map (·.2)).nodup_iff.mpr nd, fun p hp => key_same (keys p (permL.mem_iff.mp hp)) ho hd sb, by rw [epl]; exact pl, by rw [el]; exact ld, by rw [permL.length_eq, em]; exact room, by rw [permL.length_eq]; exact few⟩ permL
end
end Kx
end
section
set_option Elab.async false
set_option linter.all false
set_option maxRecDepth 100000
set_option maxHeartbeats 4000000
/-! Sets of tuples of any kind: one added, a whole list taken in. -/
namespace Kx
open PySem PySem.Spec L2
open PyProof.Rows
section
variable {P : Program} {w : World} {κ : Type} [DecidableEq κ] {kd : SKey P w κ} {A : Around} {E : Value → Shared → Prop} {s : Shared}
variable {a : Addr} {L : List (Addr × κ)} {es : Array (Int × Value)} {ep : Nat} {t : SetTable} {x : Addr} {k : κ}
theorem addG (R : SetG kd s.heap a L es ep t) (hx : kd.is s.heap k x) (hu : A.units + 8 < cLine) (few : L.length + 1 ≤ 300) {Q : Bool → Shared → Prop}
    (hQ : ∀ b h2 L2 es2 ep2 t2, Heap.SameBut a s.heap h2 → SetG kd h2 a L2 es2 ep2 t2 → (k ∈ L.map (·.2) → L2 = L) → (k ∉ L.map (·.2) → L2.Perm ((x, k) :: L)) → Q b { s with heap := h2 }) :
    wpAny (model P w) A (setAddHashed a (.ref x) (kd.hash k)) Q E s := by
  obtain ⟨o, ho, hex, hd⟩ := R.obj
  have hr := R.room
  have hsl := rows_size R.rows
  unfold setAddHashed
  refine wpAny_holding ?_
  rw [show (100000 : Nat) = 99999 + 1 from rfl, setAddHashedIn_succ]
  refine wpAny_bind (wpAny_setState_of ho hd R.fits ?_)
  dsimp only
  refine wp_if_neg (by simp [byScan, Value.scannable]) ?_
  try refine wpAny_bind (wpAny_pure ?_)
  refine wpAny_bind (seek_all R hx hu (fun hm => ?_) fun K hm hK hb => ?_)
  · dsimp only
    exact wpAny_pure (hQ false s.heap L es ep t (.refl a s.heap) R (fun _ => rfl) fun z => absurd hm z)
  · dsimp only
    refine wpAny_bind (wpAny_setState_of ho hd R.fits ?_)
    dsimp only
    generalize hpt : t.put (way t.mask (kd.hash k) K) = pt
    obtain ⟨t1, p⟩ := pt
    obtain ⟨lp, T1, em, el, epl, emv, efl⟩ := R.tab.ins hK hb hpt
    have pl1 : t1.plain = true := epl.trans R.plain
    have ld1 : w.params.followText "set-order" = true ∨ t1.led = true := by rw [el]; exact R.led
    dsimp only
    first
      | (refine wpAny_bind ?_; refine wp_if_pos pl1 ?_; refine kd.byVal hx ?_)
      | refine wp_if_pos pl1 (wpAny_bind (kd.byVal hx ?_))
    simp only [if_true]
    have pm : (L.take p ++ (x, k) :: L.drop p).Perm ((x, k) :: L) := by
      have z : (L.take p ++ (x, k) :: L.drop p).Perm ((x, k) :: (L.take p ++ L.drop p)) := List.perm_middle
      rwa [List.take_append_drop] at z
    have rows1 : (SetTable.insertAt es p (kd.hash k, Value.ref x)).toList = rowsG kd (L.take p ++ (x, k) :: L.drop p) := by
      rw [SetTable.toList_insertAt, R.rows]
      unfold rowsG
      rw [List.map_append, List.map_cons, List.map_take, List.map_drop]
    have ehs : (L.take p ++ (x, k) :: L.drop p).map (fun p => kd.hash p.2) = (L.map fun p => kd.hash p.2).take p ++ kd.hash k :: (L.map fun p => kd.hash p.2).drop p := by rw [List.map_append, List.map_cons, List.map_take, List.map_drop]
    rw [← ehs] at T1
    generalize SetTable.insertAt es p (kd.hash k, Value.ref x) = es1 at rows1 ⊢
    generalize L.take p ++ (x, k) :: L.drop p = L1 at pm T1 rows1
    have len1 : L1.length = L.length + 1 := pm.length_eq
    have nd1 : (L1.map (·.2)).Nodup := (pm.map (·.2)).nodup_iff.mpr (List.nodup_cons.mpr ⟨hm, R.nd⟩)
    have sz1 : es1.size = L.length + 1 := (rows_size rows1).trans len1
    have efl : t1.fill = L.length + 1 := by rw [efl, List.length_map]
    have cnt1 : t1.place.size = L1.length := by rw [T1.cnt, List.length_map]
    refine wpAny_bind (wpAny_storeSet_of ho hd ?_ (by rw [sz1, sizeLine_eq]; omega))
    have sb : Heap.SameBut a s.heap (s.heap.update a (Obj.putSet es1 t1)) := Heap.SameBut.update ..
    have ho1 := store_at (es' := es1) (t' := t1) ho hd
    generalize s.heap.update a (Obj.putSet es1 t1) = h1 at sb ho1 ⊢
    have keys1 : ∀ p ∈ L1, kd.is h1 p.2 p.1 := fun p hp => by
      rcases List.mem_cons.mp (pm.mem_iff.mp hp) with e | hp
      · rw [e]; exact key_same hx ho hd sb
      · exact key_same (R.keys p hp) ho hd sb
    by_cases hf : t1.tooFull = true
    · have full : (L.length + 1) * 5 ≥ t1.mask * 3 := by
        have z := hf
        unfold SetTable.tooFull at z
        rw [efl] at z
        exact of_decide_eq_true z
      have which : (t.mask = 7 ∧ L.length = 4) ∨ (t.mask = 31 ∧ L.length = 18) ∨ (t.mask = 127 ∧ L.length = 76) := by
        rw [em] at full
        rcases R.tab.msk with e | e | e | e <;> rw [e] at full hr
        · exact .inl ⟨e, by omega⟩
        · exact .inr (.inl ⟨e, by omega⟩)
        · exact .inr (.inr ⟨e, by omega⟩)
        · omega
      have go : ∀ M, SetTable.sizeAbove (SetTable.grown (L.length + 1)) = M + 1 → MaskG M → M ≤ 511 → (L.length + 1) * 5 < M * 3 →
          wpAny (model P w) A (setRelay a (SetTable.grown (L.length + 1))) (fun _ z => wpAny (model P w) A (pure true) Q E z) E { s with heap := h1 } := fun M e hM le lt => by
        refine relayG (s := { s with heap := h1 }) ho1 ⟨hex.1, hex.2.1, hex.2.2⟩ rfl rows1 (fits_of (by rw [cnt1, sz1, len1]) T1.noD (by rw [sz1, em]; omega)) nd1 keys1 pl1 ld1 (by omega) (by rw [e]; rfl) hM (by omega) (by omega) ?_
        exact fun h2 L2 es2 ep2 t2 sb2 R2 pm2 => wpAny_pure (hQ true h2 L2 es2 ep2 t2 (sb.trans sb2) R2 (fun z => absurd z hm) fun _ => pm2.trans pm)
      rw [hsl]
      first
        | (refine wpAny_bind ?_; refine wp_if_pos (by simp [hf]) ?_)
        | (refine wp_if_pos (by simp [hf]) ?_; refine wpAny_bind ?_)
      rcases which with ⟨_, e⟩ | ⟨_, e⟩ | ⟨_, e⟩
      · exact go 31 (by rw [e]; exact grow5) (.inr (.inl rfl)) (by omega) (by omega)
      · exact go 127 (by rw [e]; exact grow19) (.inr (.inr (.inl rfl))) (by omega) (by omega)
      · exact go 511 (by rw [e]; exact grow77) (.inr (.inr (.inr rfl))) (by omega) (by omega)
    · have room1 : (L.length + 1) * 5 < t1.mask * 3 := by
        have z := hf
        unfold SetTable.tooFull at z
        rw [efl] at z
        have z := of_decide_eq_false (Bool.eq_false_iff.mpr z)
        omega
      first
        | refine wp_if_neg (by simp [hf]) ?_
        | (refine wpAny_bind ?_; refine wp_if_neg (by simp [hf]) ?_; refine wpAny_pure ?_)
      exact wpAny_pure (hQ true h1 L1 es1 (ep + 1) t1 sb ⟨⟨_, ho1, ⟨hex.1, hex.2.1, hex.2.2⟩, rfl⟩, rows1, T1, nd1, keys1, pl1, ld1, by rw [len1]; exact room1, by omega⟩ (fun z => absurd z hm) fun _ => pm)
end
/-- what is got from the first i -/
structure Took {κ : Type} (ks : List (Addr × κ)) (i : Nat) (L : List (Addr × κ)) : Prop where
  sub : ∀ p ∈ L, p ∈ ks.take i
  all : ∀ p ∈ ks.take i, p.2 ∈ L.map (·.2)
theorem Took.step {κ : Type} {ks L L2 : List (Addr × κ)} {i : Nat} {x : Addr × κ} (g : Took ks i L) (h : ks[i]? = some x) (c1 : x.2 ∈ L.map (·.2) → L2 = L) (c2 : x.2 ∉ L.map (·.2) → L2.Perm (x :: L)) : Took ks (i + 1) L2 := by
  rcases Classical.em (x.2 ∈ L.map (·.2)) with c | c
  · rw [c1 c]
    refine ⟨fun p hp => ?_, fun p hp => ?_⟩
    · rw [take_succ_at h]
      exact List.mem_append_left _ (g.sub p hp)
    · rw [take_succ_at h] at hp
      rcases List.mem_append.mp hp with z | z
      · exact g.all p z
      · rw [List.mem_singleton.mp z]
        exact c
  · have pm := c2 c
    refine ⟨fun p hp => ?_, fun p hp => ?_⟩
    · rw [take_succ_at h]
      rcases List.mem_cons.mp (pm.mem_iff.mp hp) with e | z
      · rw [e]
        exact List.mem_append_right _ (List.mem_singleton.mpr rfl)
      · exact List.mem_append_left _ (g.sub p z)
    · rw [(pm.map (·.2)).mem_iff, List.map_cons]
      rw [take_succ_at h] at hp
      rcases List.mem_append.mp hp with z | z
      · exact List.mem_cons_of_mem _ (g.all p z)
      · rw [List.mem_singleton.mp z]
        exact List.mem_cons_self
section
variable {P : Program} {w : World} {κ : Type} [DecidableEq κ] {kd : SKey P w κ} {A : Around} {E : Value → Shared → Prop} {s : Shared}
abbrev newSetO (w : World) : Obj := { cls := .type "set", dict := none, data := .set #[] 0 (.fresh 0 0 (!w.params.followText "set-order")) }
theorem SetG.keep {h h2 : Heap} {a : Addr} {L : List (Addr × κ)} {es : Array (Int × Value)} {ep : Nat} {t : SetTable} (R : SetG kd h a L es ep t) (ha : ∀ o, h.get? a = some o → h2.get? a = some o) (hk : ∀ p ∈ L, kd.is h2 p.2 p.1) : SetG kd h2 a L es ep t := by
  obtain ⟨o, ho, r⟩ := R.obj
  exact ⟨⟨o, ha o ho, r⟩, R.rows, R.tab, R.nd, hk, R.plain, R.led, R.room, R.few⟩
theorem SetG.fresh {h : Heap} {a : Addr} (ho : h.get? a = some (newSetO w)) : SetG kd h a [] #[] 0 (.fresh 0 0 (!w.params.followText "set-order")) where
  obj := ⟨_, ho, ⟨rfl, rfl, rfl⟩, rfl⟩
  rows := rfl
  tab := ⟨List.Pairwise.nil, rfl, rfl, .inl rfl, fun x hx => (by cases hx), fun i h j hi => (by simp at hi)⟩
  nd := List.nodup_nil
  keys := fun p hp => (by cases hp)
  plain := rfl
  led := by
    cases e : w.params.followText "set-order" with
    | true => exact .inl rfl
    | false => exact .inr rfl
  room := by show 0 * 5 < 7 * 3; decide
  few := Nat.zero_le _
theorem is_keep {h h2 : Heap} {k : κ} {b : Addr} (x : kd.is h k b) (hk : ∀ c o, h.get? c = some o → h2.get? c = some o) : kd.is h2 k b := kd.stay (fun c o _ _ e _ => hk c o e) x
/-- the loop of set.update over what W draws -/
theorem updateG {I S : Addr} {fp wr : List Addr} {G : Array GenState → Array GenState → Prop} {n : Nat} {Pv : Nat → Value → Prop} {St : Nat → Shared → Prop} {R : Result → Shared → Prop} (W : WalksS P w A.in1 I fp wr G n Pv St) (hSf : S ∉ fp)
    (ks : List (Addr × κ)) (hn : n = ks.length) (hbd : ∀ (i : Nat) (L : List (Addr × κ)), Took ks i L → (L.map (·.2)).Nodup → L.length + 1 ≤ 300) (hval : ∀ i v, Pv i v → ∃ p, ks[i]? = some p ∧ v = .ref p.1) (h0 : Heap) (hk : ∀ p ∈ ks, kd.is h0 p.2 p.1) (hS0 : h0.get? S = none) (hw0 : ∀ b ∈ wr, h0.get? b = none) (hu : A.in1.units + 8 < cLine) :
    ∀ (m i : Nat) (s : Shared), n - i = m → i ≤ n → St i s → (∀ b o, h0.get? b = some o → s.heap.get? b = some o) → (∃ L es ep t, SetG kd s.heap S L es ep t ∧ Took ks i L) →
      (∀ s2 L es ep t, Moved (S :: wr) G s s2 → SetG kd s2.heap S L es ep t → Took ks n L → (∀ b o, h0.get? b = some o → s2.heap.get? b = some o) → R (.ok (.ret .none)) s2) →
      codeAny (model P w) A (.builtin "set.update.loop" ⟨[.ref S, .ref I], []⟩) R s := by
  have more : ∀ b ∈ wr, b ∈ S :: wr := fun b hb => List.mem_cons_of_mem _ hb
  have held : ∀ {z z2 : Shared}, Moved wr G z z2 → (∀ b o, h0.get? b = some o → z.heap.get? b = some o) → ∀ b o, h0.get? b = some o → z2.heap.get? b = some o := fun hm hkp b o e => hm.heap b o (fun hb => by rw [hw0 b hb] at e; cases e) (hkp b o e)
  have carry : ∀ {z z2 : Shared} {i : Nat} {L : List (Addr × κ)} {es : Array (Int × Value)} {ep : Nat} {t : SetTable}, Moved wr G z z2 → (∀ b o, h0.get? b = some o → z2.heap.get? b = some o) → Took ks i L → SetG kd z.heap S L es ep t → SetG kd z2.heap S L es ep t :=
    fun hm hkp g hS => hS.keep (fun o e => hm.heap S o (fun h => hSf (W.sub _ h)) e) fun p hp => is_keep (hk p (List.mem_of_mem_take (g.sub p hp))) hkp
  intro m
  induction m with
  | zero =>
    intro i s hm0 hi st kp ⟨L, es, ep, t, hS, g⟩ hR
    obtain rfl : i = n := by omega
    refine codeAny_builtin F.entry_set_update_loop ?_
    rw [Around.under_plainId F.plain_set_update_loop _]
    show wpAny _ A.in1 (pyNext (.ref I) >>= _) _ _ s
    refine wpAny_bind (W.done s _ _ st fun s2 mv => ?_)
    exact wpAny_pure (hR s2 L es ep t (mv.mono more) (carry mv (held mv kp) g hS) g (held mv kp))
  | succ m ih =>
    intro i s hm0 hi st kp ⟨L, es, ep, t, hS, g⟩ hR
    have lt : i < n := by omega
    refine codeAny_builtin F.entry_set_update_loop ?_
    rw [Around.under_plainId F.plain_set_update_loop _]
    show wpAny _ A.in1 (pyNext (.ref I) >>= _) _ _ s
    refine wpAny_bind (W.item i s _ _ lt st fun v s2 hP st2 mv => ?_)
    obtain ⟨p, hp, rfl⟩ := hval i v hP
    have kp2 := held mv kp
    have hx : kd.is s2.heap p.2 p.1 := is_keep (hk p (List.mem_of_getElem? hp)) kp2
    have hS2 := carry mv kp2 g hS
    show wpAny _ A.in1 (holding [Value.ref p.1] (setAdd S (.ref p.1)) >>= _) _ _ s2
    refine wpAny_bind (wpAny_holding ?_)
    unfold setAdd
    refine wpAny_holding (wpAny_bind (kd.doHash hu hx ?_))
    refine addG (s := { s2 with toks := s2.toks + kd.draws p.2 }) hS2 hx hu (hbd i L g hS2.nd) fun b h3 L3 es3 ep3 t3 sb R3 c1 c2 => ?_
    have ne0 : ∀ b o, h0.get? b = some o → b ≠ S := fun b o e z => by rw [z, hS0] at e; cases e
    have kp3 : ∀ b o, h0.get? b = some o → h3.get? b = some o := fun b o e => (sb.2 b (ne0 b o e)).trans (kp2 b o e)
    refine wpAny_pure ⟨plainId_quiet F.plain_set_update_loop _, ih (i + 1) _ (by omega) lt (W.frame _ s2 _ _ st2 (Nat.le_add_right _ _) fun b hb o e => ?_) kp3 ⟨L3, es3, ep3, t3, R3, g.step hp c1 c2⟩ fun s4 L4 es4 ep4 t4 mv4 R4 g4 kp4 => ?_⟩
    · rw [sb.2 b fun z : b = S => hSf (z ▸ hb)]
      exact e
    · refine hR s4 L4 es4 ep4 t4 (Moved.trans W.gtrans ((mv.mono more).then_heap (Nat.le_add_right _ _) fun b o hb e => ?_) mv4) R4 g4 kp4
      rw [sb.2 b fun z : b = S => hb (z ▸ List.mem_cons_self)]
      exact e
end
end Kx
end
section
set_option Elab.async false
set_option linter.all false
set_option maxRecDepth 100000
set_option maxHeartbeats 4000000
/-! set(xs) of a list of tuples of any kind. -/
namespace Kx
open PySem PySem.Spec L2
open PyProof.Rows
section
variable {P : Program} {w : World} {κ : Type} [DecidableEq κ] {kd : SKey P w κ} {A : Around} {E : Value → Shared → Prop} {s : Shared}
theorem no_obj {h : Heap} {b : Addr} (hb : h.objs.size ≤ b) : h.get? b = none := by
  cases e : h.get? b with
  | none => rfl
  | some o => exact absurd (Nat.lt_of_lt_of_le (Heap.lt_size e) hb) (Nat.lt_irrefl _)
/-- what stands once a set has been made -/
def MadeG (kd : SKey P w κ) (s : Shared) (ks : List (Addr × κ)) (z : Shared) : Prop := ∃ h2 tk L es ep t, z = { s with heap := h2, toks := tk } ∧ SetG kd h2 s.heap.objs.size L es ep t ∧ Took ks ks.length L ∧ ∀ b o, s.heap.get? b = some o → h2.get? b = some o
/-- the loop over the list's iterator -/
theorem loopG {l : Addr} {items : Array Value} (ks : List (Addr × κ)) (hh : A.handled = none) (hl : s.heap.IsList l items) (hit : items.toList = ks.map fun p => Value.ref p.1) (hk : ∀ p ∈ ks, kd.is s.heap p.2 p.1)
    (hbd : ∀ L : List (Addr × κ), (∀ p ∈ L, p ∈ ks) → (L.map (·.2)).Nodup → L.length + 1 ≤ 300) (hu : A.units + 9 < cLine) {R : Result → Shared → Prop} (hR : ∀ z, MadeG kd s ks z → R (.ok (.ret .none)) z) :
    codeAny (model P w) A (.builtin "set.update.loop" ⟨[.ref s.heap.objs.size, .ref (s.heap.push (newSetO w)).objs.size], []⟩) R { s with heap := (s.heap.push (newSetO w)).push { cls := .type "list_iterator", data := .fields #[.ref l, .int 0 0] } } := by
  have len : items.size = ks.length := by
    have z := congrArg List.length hit
    rwa [Array.length_toList, List.length_map] at z
  obtain ⟨ol, hol, _⟩ := id hl
  have low : l < s.heap.objs.size := Heap.lt_size hol
  have l1 : (s.heap.push (newSetO w)).IsList l items := hl.at fun o e => Heap.get?_push_of_some _ e
  have sz : (s.heap.push (newSetO w)).objs.size = s.heap.objs.size + 1 := Heap.size_push ..
  have lI : l ≠ (s.heap.push (newSetO w)).objs.size := by rw [sz]; exact Nat.ne_of_lt (Nat.lt_succ_of_lt low)
  have made0 : ((s.heap.push (newSetO w)).push { cls := .type "list_iterator", data := .fields #[.ref l, .int 0 0] }).get? s.heap.objs.size = some (newSetO w) := Heap.get?_push_of_some _ (Heap.get?_push_size _ rfl)
  have val : ∀ (i : Nat) (v : Value), items[i]? = some v → ∃ p, ks[i]? = some p ∧ v = .ref p.1 := fun i v hv => by
    have z : items.toList[i]? = some v := by rw [Array.getElem?_toList]; exact hv
    rw [hit, List.getElem?_map] at z
    obtain ⟨p, hp, e⟩ := Option.map_eq_some_iff.mp z
    exact ⟨p, hp, e.symm⟩
  refine updateG (h0 := s.heap) (n := items.size) (kd := kd) ((Walks.list (show A.in1.handled = none from hh) (s.heap.push (newSetO w)).objs.size l lI items).toS) ?_ ks len (fun i L g nd => hbd L (fun p hp => List.mem_of_mem_take (g.sub p hp)) nd) val hk (no_obj (Nat.le_refl _))
    (fun b hb => no_obj (by rw [List.mem_singleton.mp hb, sz]; exact Nat.le_succ _)) (by show A.units + 1 + 8 < cLine; omega) items.size 0 _ (by omega) (Nat.zero_le _) ⟨⟨_, Heap.get?_push_size _ rfl, rfl, rfl⟩, l1.at fun o e => Heap.get?_push_of_some _ e⟩
    (fun b o e => Heap.get?_push_of_some _ (Heap.get?_push_of_some _ e)) ⟨[], #[], 0, _, SetG.fresh made0, ⟨fun p hp => (by cases hp), fun p hp => (by simp at hp)⟩⟩ fun z L es ep t mv R2 g kp => ?_
  · rw [sz]
    simp only [List.mem_cons, List.not_mem_nil, or_false, not_or]
    exact ⟨Nat.ne_of_lt (Nat.lt_succ_self _), Nat.ne_of_gt low⟩
  · obtain ⟨h2, g2, d2, tk, os2⟩ := z
    have eg : g2 = s.gens := mv.gens
    have ed : d2 = s.drawn := mv.drawn
    have eo : os2 = s.os := mv.os
    subst eg ed eo
    rw [len] at g
    exact hR _ ⟨h2, tk, L, es, ep, t, rfl, R2, g, kp⟩
set_option maxHeartbeats 3200000 in
/-- set.__init__ of the new set -/
theorem initG {l : Addr} {items : Array Value} (ks : List (Addr × κ)) (hh : A.handled = none) (hl : s.heap.IsList l items) (hit : items.toList = ks.map fun p => Value.ref p.1) (hk : ∀ p ∈ ks, kd.is s.heap p.2 p.1)
    (hbd : ∀ L : List (Addr × κ), (∀ p ∈ L, p ∈ ks) → (L.map (·.2)).Nodup → L.length + 1 ≤ 300) (hu : A.units + 9 < cLine) {Q : Fin → Shared → Prop} (hQ : ∀ z, MadeG kd s ks z → Q (.done (.ret .none)) z) :
    wpAny (model P w) A (Builtin.«set.__init__» ⟨[.ref s.heap.objs.size, .ref l], []⟩) Q E { s with heap := s.heap.push (newSetO w) } := by
  have made : (s.heap.push (newSetO w)).get? s.heap.objs.size = some (newSetO w) := Heap.get?_push_size _ rfl
  have l1 : (s.heap.push (newSetO w)).IsList l items := hl.at fun o e => Heap.get?_push_of_some _ e
  obtain ⟨⟨cls, dict, data, slots⟩, hol, hcl, nl, hdl⟩ := id l1
  obtain rfl : cls = .type "list" := hcl
  obtain rfl : data = .seq items nl := hdl
  have t1 : Shared.TypeIs { s with heap := s.heap.push (newSetO w) } (.ref s.heap.objs.size) "set" := ⟨_, made, rfl⟩
  have s1 := F.sub_list_set
  have s2 := F.sub_list_frozenset
  have nd : (Value.type "list" == Value.type "dict") = false := by decide
  unfold Builtin.«set.__init__» noKeywords Builtin.Frozenset.updateFrom
  generalize hPI : pyIter = PI
  wp_walk
  subst hPI
  refine wpAny_pyIter_list l1 (wpAny_bind (wpAny_runValue (loopG (A := A) ks hh hl hit hk hbd hu fun z hz => ?_)))
  exact wpAny_pure (wpAny_pure (hQ z hz))
set_option maxHeartbeats 3200000 in
/-- set(xs) -/
theorem callSetG {l : Addr} {items : Array Value} (ks : List (Addr × κ)) {Q : Value → Shared → Prop} (hh : A.handled = none) (hl : s.heap.IsList l items) (hit : items.toList = ks.map fun p => Value.ref p.1) (hk : ∀ p ∈ ks, kd.is s.heap p.2 p.1)
    (hbd : ∀ L : List (Addr × κ), (∀ p ∈ L, p ∈ ks) → (L.map (·.2)).Nodup → L.length + 1 ≤ 300) (hu : A.units + 12 < cLine) (hQ : ∀ z, MadeG kd s ks z → Q (.ref s.heap.objs.size) z) : wpAny (model P w) A (call (.type "set") [.ref l]) Q E s := by
  have cs := F.called_set
  obtain ⟨c, tl, hmro⟩ := cs.mro
  have hmade := cs.made
  have hsub := cs.sub
  have h1 := cs.notType
  have h2 := cs.canCreate
  have h3 := F.typeCall_set_1 (.ref l)
  refine wpAny_call (codeAny_of_tree (show wpAny _ _ (callAny (.type "set") _) _ _ _ from wpAny_pure ⟨Code.quiet_builtin _ (by decide +kernel), codeAny_builtin F.entry_type_call ?_⟩))
  rw [Around.under_plain (weight_type_call_type "set" [.ref l] []) rfl]
  repeat (any_goals (first | assumption | wp_step))
  refine codeAny_mono (code_set_led1 (.ref l) (E := E) (Q₁ := fun v z => v = .ref s.heap.objs.size ∧ z = { s with heap := s.heap.push (newSetO w) }) ⟨rfl, rfl⟩) fun r z hr => ?_
  cases r with
  | error e => exact hr
  | ok fl =>
    cases fl with
    | ret v =>
      obtain ⟨rfl, rfl⟩ := hr
      have made : (s.heap.push (newSetO w)).get? s.heap.objs.size = some (newSetO w) := Heap.get?_push_size _ rfl
      have t1 : Shared.TypeIs { s with heap := s.heap.push (newSetO w) } (.ref s.heap.objs.size) "set" := ⟨_, made, rfl⟩
      have h4 := cs.init.lookup
      have h5 := cs.init.bind (.ref s.heap.objs.size)
      repeat (any_goals (first | assumption | wp_step))
      refine codeAny_mono (codeAny_call_builtin (R := wants (fun v z => v = .none ∧ MadeG kd s ks z) E) cs.init.plain F.entry_set_init (check_set_init_1 t1 ?_)) fun r2 z2 hr2 => ?_
      · exact initG (A := A.in1.in1) ks hh hl hit hk hbd (by show A.units + 1 + 1 + 9 < cLine; omega) fun z hz => ⟨rfl, hz⟩
      · cases r2 with
        | error e => exact hr2
        | ok f2 =>
          cases f2 with
          | ret v =>
            obtain ⟨rfl, h2, tk, L, es, ep, t, rfl, R2, g, kp⟩ := hr2
            repeat (any_goals (first | assumption | wp_step))
            exact hQ _ ⟨h2, tk, L, es, ep, t, rfl, R2, g, kp⟩
          | _ => exact hr2.elim
    | _ => exact hr.elim
end
end Kx
end
section
set_option Elab.async false
set_option linter.all false
set_option maxRecDepth 100000
set_option maxHeartbeats 4000000
/-! Loads as elements and keys: a tuple of two tuples of ints. -/
namespace Kx
open PySem PySem.Spec L2
open PyProof.Rows
abbrev LoadI := List Int × List Int
def loadK (k : LoadI) : NestedKey := .tup [.tup (k.1.map .num), .tup (k.2.map .num)]
def isI (h : Heap) (a : Addr) (ns : List Int) : Prop := ∃ o vs n, h.get? a = some o ∧ o.cls = .type "tuple" ∧ o.data = .seq vs n ∧ IntsAre vs.toList ns
def isL (h : Heap) (k : LoadI) (a : Addr) : Prop := ∃ b c o n, h.get? a = some o ∧ o.cls = .type "tuple" ∧ o.data = .seq #[.ref b, .ref c] n ∧ isI h b k.1 ∧ isI h c k.2
theorem isI.stay {h h' : Heap} {a : Addr} {ns : List Int} (x : isI h a ns) (hk : ∀ b o vs n, h.get? b = some o → o.data = .seq vs n → h'.get? b = some o) : isI h' a ns :=
  let ⟨o, vs, n, a1, a2, a3, a4⟩ := x; ⟨o, vs, n, hk a o vs n a1 a3, a2, a3, a4⟩
theorem isL.stay {h h' : Heap} {a : Addr} {k : LoadI} (x : isL h k a) (hk : ∀ b o vs n, h.get? b = some o → o.data = .seq vs n → h'.get? b = some o) : isL h' k a :=
  let ⟨b, c, o, n, a1, a2, a3, a4, a5⟩ := x; ⟨b, c, o, n, hk a o _ n a1 a3, a2, a3, a4.stay hk, a5.stay hk⟩
theorem nest_ints {h : Heap} : ∀ {ns : List Int} {vs : List Value}, IntsAre vs ns → NestedAll h (ns.map .num) vs
  | _, _, .nil => .nil
  | _, _, .cons n t r => .cons (.int n t) (nest_ints r)
theorem isL.nest {h : Heap} {a : Addr} {k : LoadI} (x : isL h k a) : NestedIs h (loadK k) (.ref a) := by
  obtain ⟨b, c, o, n, a1, a2, a3, ⟨o1, v1, n1, b1, b2, b3, b4⟩, o2, v2, n2, c1, c2, c3, c4⟩ := x
  exact .tup a1 a2 a3 (.cons (.tup b1 b2 b3 (nest_ints b4)) (.cons (.tup c1 c2 c3 (nest_ints c4)) .nil))
theorem deep_ints : ∀ ns : List Int, NestedKey.depthAll (ns.map .num) = 0
  | [] => rfl
  | n :: ns => by
    rw [List.map_cons, NestedKey.depthAll, deep_ints ns]
    rfl
theorem loadK_deep (k : LoadI) : (loadK k).depth ≤ 8 := by
  unfold loadK
  simp [NestedKey.depth, NestedKey.depthAll, deep_ints]
theorem num_inj : ∀ {a b : List Int}, a.map NestedKey.num = b.map NestedKey.num → a = b
  | [], [], _ => rfl
  | [], _ :: _, h => by cases h
  | _ :: _, [], h => by cases h
  | x :: a, y :: b, h => by
    rw [List.map_cons, List.map_cons] at h
    injection h with h1 h2
    injection h1 with h1
    rw [h1, num_inj h2]
theorem loadK_inj {x y : LoadI} (h : loadK x = loadK y) : x = y := by
  unfold loadK at h
  injection h with h
  injection h with h1 h2
  injection h1 with h1
  injection h2 with h2 _
  injection h2 with h2
  exact Prod.ext (num_inj h1) (num_inj h2)
section
variable {P : Program} {w : World} {A : Around} {E : Value → Shared → Prop} {s : Shared}
/-! what no class statement made -/
theorem cls_tup {n : Nat} {a : Addr} {o : Obj} {items : Array Value} {m : Nat} {Q : Bool → Shared → Prop} (ho : s.heap.get? a = some o) (hc : o.cls = .type "tuple") (hd : o.data = .seq items m) (hi : ∀ v ∈ items.toList, ∀ Q : Bool → Shared → Prop, Q false s → wpAny (model P w) A (ofAClassStatement n v) Q E s) (h : Q false s) :
    wpAny (model P w) A (ofAClassStatement (n + 1) (.ref a)) Q E s := by
  unfold ofAClassStatement
  refine wpAny_bind (wpAny_typeOf (T := "tuple") ⟨o, ho, hc⟩ ?_)
  dsimp only
  have e : (("tuple" : String) == "tuple") = true := by decide
  simp only [e, if_true]
  refine wpAny_bind (wpAny_pure ?_)
  simp only [Bool.not_true, Bool.false_eq_true, if_false]
  show wpAny _ _ (seqItems? (.ref a) >>= _) _ _ s
  refine wpAny_bind (wpAny_seqItems ho hd ?_)
  dsimp only
  refine wpAny_bind (show wpAny _ _ (forIn items _ _) _ _ s from ?_)
  rw [← Array.forIn_toList]
  refine wpAny_forIn_list _ (fun todo r z => r.1 = none ∧ z = s ∧ ∀ v ∈ todo, v ∈ items.toList) _ ?_ ?_ _ _ ⟨rfl, rfl, fun _ hv => hv⟩
  · rintro v todo r z ⟨hr, rfl, all⟩
    refine wpAny_bind (hi v (all v List.mem_cons_self) _ ?_)
    simp only [Bool.false_eq_true, if_false]
    exact wpAny_pure ⟨rfl, rfl, fun u hu => all u (List.mem_cons_of_mem _ hu)⟩
  · rintro ⟨r1, r2⟩ z ⟨hr, rfl, _⟩
    obtain rfl : r1 = none := hr
    exact wpAny_pure h
theorem val_tup {n : Nat} {a : Addr} {o : Obj} {items : Array Value} {m : Nat} {Q : Bool → Shared → Prop} (ho : s.heap.get? a = some o) (hc : o.cls = .type "tuple") (hd : o.data = .seq items m) (hi : ∀ v ∈ items.toList, ∀ Q : Bool → Shared → Prop, Q true s → wpAny (model P w) A (hashByValue n v) Q E s) (h : Q true s) :
    wpAny (model P w) A (hashByValue (n + 1) (.ref a)) Q E s := by
  unfold hashByValue
  refine wpAny_bind (wpAny_specialOf (T := "tuple") ⟨o, ho, hc⟩ F.slot_tuple_hash.lookup ?_)
  show wpAny _ _ (seqItems? (.ref a) >>= _) _ _ s
  refine wpAny_bind (wpAny_seqItems ho hd ?_)
  refine wpAny_bind (show wpAny _ _ (forIn items _ _) _ _ s from ?_)
  rw [← Array.forIn_toList]
  refine wpAny_forIn_list _ (fun todo r z => r.1 = none ∧ z = s ∧ ∀ v ∈ todo, v ∈ items.toList) _ ?_ ?_ _ _ ⟨rfl, rfl, fun _ hv => hv⟩
  · rintro v todo r z ⟨hr, rfl, all⟩
    refine wpAny_bind (hi v (all v List.mem_cons_self) _ ?_)
    simp only [Bool.not_true, Bool.false_eq_true, if_false]
    exact wpAny_pure ⟨rfl, rfl, fun u hu => all u (List.mem_cons_of_mem _ hu)⟩
  · rintro ⟨r1, r2⟩ z ⟨hr, rfl, _⟩
    obtain rfl : r1 = none := hr
    exact wpAny_pure h
theorem int_of : ∀ {vs : List Value} {ns : List Int}, IntsAre vs ns → ∀ v ∈ vs, ∃ i t, v = Value.int i t
  | _, _, .nil, v, h => by cases h
  | _, _, .cons n t r, v, h => by
    rcases List.mem_cons.mp h with e | h
    · exact ⟨n, t, e⟩
    · exact int_of r v h
theorem isL.cls {a : Addr} {k : LoadI} {Q : Bool → Shared → Prop} (x : isL s.heap k a) (h : Q false s) : wpAny (model P w) A (ofAClassStatement 8 (.ref a)) Q E s := by
  obtain ⟨b, c, o, n, a1, a2, a3, ⟨o1, v1, n1, b1, b2, b3, b4⟩, o2, v2, n2, c1, c2, c3, c4⟩ := x
  have flat : ∀ {vs : List Value} {ns : List Int}, IntsAre vs ns → ∀ v ∈ vs, ∀ Q : Bool → Shared → Prop, Q false s → wpAny (model P w) A (ofAClassStatement 6 v) Q E s := fun r v hv Q q => by
    obtain ⟨i, t, rfl⟩ := int_of r v hv
    exact wpAny_pure q
  refine cls_tup (n := 7) a1 a2 a3 (fun v hv Q q => ?_) h
  have hv : v = .ref b ∨ v = .ref c := by simpa using hv
  rcases hv with rfl | rfl
  · exact cls_tup (n := 6) b1 b2 b3 (flat b4) q
  · exact cls_tup (n := 6) c1 c2 c3 (flat c4) q
theorem isL.val {a : Addr} {k : LoadI} {Q : Bool → Shared → Prop} (x : isL s.heap k a) (h : Q true s) : wpAny (model P w) A (hashByValue 8 (.ref a)) Q E s := by
  obtain ⟨b, c, o, n, a1, a2, a3, ⟨o1, v1, n1, b1, b2, b3, b4⟩, o2, v2, n2, c1, c2, c3, c4⟩ := x
  have flat : ∀ {vs : List Value} {ns : List Int}, IntsAre vs ns → ∀ v ∈ vs, ∀ Q : Bool → Shared → Prop, Q true s → wpAny (model P w) A (hashByValue 6 v) Q E s := fun r v hv Q q => by
    obtain ⟨i, t, rfl⟩ := int_of r v hv
    exact wpAny_pure q
  refine val_tup (n := 7) a1 a2 a3 (fun v hv Q q => ?_) h
  have hv : v = .ref b ∨ v = .ref c := by simpa using hv
  rcases hv with rfl | rfl
  · exact val_tup (n := 6) b1 b2 b3 (flat b4) q
  · exact val_tup (n := 6) c1 c2 c3 (flat c4) q
end
/-- loads as a set's elements -/
def loadKey (P : Program) (w : World) : SKey P w LoadI where
  is := isL
  hash := fun k => (loadK k).hash w
  draws := fun k => (loadK k).draws
  stay := fun hk x => x.stay hk
  seq := fun ⟨_, _, o, n, a1, _, a3, _⟩ => ⟨o, _, n, a1, a3⟩
  doHash := fun hu hk h => (nestedKind P w).pyHash hu ⟨hk.nest, loadK_deep _⟩ h
  doEq := fun {A E s x y a b Q} hu hx hy h => (nestedKind P w).eqBool hu ⟨hx.nest, loadK_deep _⟩ ⟨hy.nest, loadK_deep _⟩ (by rw [decide_eq_decide.mpr ⟨fun e => loadK_inj e, fun e => congrArg loadK e⟩]; exact h)
  quiet := fun hk h => (nestedKind P w).quiet ⟨hk.nest, loadK_deep _⟩ h
  noCls := fun hk h => hk.cls h
  byVal := fun hk h => hk.val h
/-- a load in the abstract heap -/
def LoadH (K : PySem.W.Frag) (H : Hp) (a : Addr) (k : LoadI) : Prop := ∃ b c, SqT K H a [.ref b, .ref c] ∧ SqT K H b (k.1.map V.int) ∧ SqT K H c (k.2.map V.int)
theorem ints_at {X : Cx} {pins : List (Addr × Obj)} {σ : L2.St} {H : Hp} {s : Shared} (J : Inv X pins σ H s) {a : Addr} {ns : List Int} (h : SqT X.K H a (ns.map V.int)) : isI s.heap a ns := by
  obtain ⟨its, rv, ⟨o, ho, hc, n, hd⟩, _⟩ := J.tuple h
  exact ⟨o, its.toArray, n, ho, hc, hd, by simpa using rv.ints⟩
theorem LoadH.is {X : Cx} {pins : List (Addr × Obj)} {σ : L2.St} {H : Hp} {s : Shared} (J : Inv X pins σ H s) {a : Addr} {k : LoadI} (h : LoadH X.K H a k) : isL s.heap k a := by
  obtain ⟨b, c, h1, h2, h3⟩ := h
  obtain ⟨its, rv, ⟨o, ho, hc, n, hd⟩, _⟩ := J.tuple h1
  have e : its = [.ref b, .ref c] := by
    cases rv with
    | cons r1 rv =>
      cases rv with
      | cons r2 rv =>
        cases rv
        cases r1
        cases r2
        rfl
  subst e
  exact ⟨b, c, o, n, ho, hc, hd, ints_at J h2, ints_at J h3⟩
def loadZ (k : LoadI) : PyData := .tuple [intsD k.1, intsD k.2]
theorem dp_ints {K : PySem.W.Frag} {H : Hp} {a : Addr} {ns : List Int} (h : SqT K H a (ns.map V.int)) : Dp K H (.ref a) (intsD ns) := by
  have all : ∀ ns : List Int, DpAll K H (ns.map V.int) (ns.map PyData.int) := fun ns => by
    induction ns with
    | nil => exact .nil
    | cons n ns ih => exact .cons (.int n) ih
  exact .tup h (all ns)
theorem LoadH.dp {K : PySem.W.Frag} {H : Hp} {a : Addr} {k : LoadI} (h : LoadH K H a k) : Dp K H (.ref a) (loadZ k) := by
  obtain ⟨b, c, h1, h2, h3⟩ := h
  exact .tup h1 (.cons (dp_ints h2) (.cons (dp_ints h3) .nil))
theorem LoadH.of {K : PySem.W.Frag} {U H : Hp} (S : Same U H) {v : V} {k : LoadI} (h : Td U v (loadZ k)) : ∃ a, v = .ref a ∧ LoadH K H a k := by
  obtain ⟨a, vs, rfl, ha, t⟩ := Td.toTup h
  cases t with
  | cons t1 t =>
    cases t with
    | cons t2 t =>
      cases t
      obtain ⟨b, v1, rfl, hb, i1⟩ := Td.toTup t1
      obtain ⟨c, v2, rfl, hc, i2⟩ := Td.toTup t2
      have e1 := i1.ints
      have e2 := i2.ints
      subst e1 e2
      exact ⟨a, rfl, b, c, SqT.of (S _ _ ha), SqT.of (S _ _ hb), SqT.of (S _ _ hc)⟩
end Kx
end
section
set_option Elab.async false
set_option linter.all false
set_option maxRecDepth 100000
set_option maxHeartbeats 4000000
/-! sorted(set(xs)), xs a list of loads. -/
namespace Kx
open PySem PySem.Spec L2
open PyProof.Rows
theorem perm_back {α β : Type} (f : α → β) {l m : List β} (h : l.Perm m) : ∀ {L : List α}, L.map f = m → ∃ L2 : List α, L2.Perm L ∧ L2.map f = l := by
  induction h with
  | nil =>
    intro L e
    exact ⟨[], by rw [List.map_eq_nil_iff.mp e], rfl⟩
  | cons x _ ih =>
    intro L e
    cases L with
    | nil => cases e
    | cons y L =>
      rw [List.map_cons] at e
      injection e with e1 e2
      obtain ⟨L2, p, e3⟩ := ih e2
      exact ⟨y :: L2, p.cons y, by rw [List.map_cons, e1, e3]⟩
  | swap x y l =>
    intro L e
    cases L with
    | nil => cases e
    | cons a L =>
      cases L with
      | nil => cases e
      | cons b L =>
        rw [List.map_cons, List.map_cons] at e
        injection e with e1 e2
        injection e2 with e2 e3
        exact ⟨b :: a :: L, List.Perm.swap a b L, by rw [List.map_cons, List.map_cons, e1, e2, e3]⟩
  | trans _ _ ih1 ih2 =>
    intro L e
    obtain ⟨L2, p2, e2⟩ := ih2 e
    obtain ⟨L3, p3, e3⟩ := ih1 e2
    exact ⟨L3, p3.trans p2, e3⟩
theorem each_refs : ∀ bs : List (Addr × LoadI), PySem.W.EachIs (fun (u : Value) (b : Addr × LoadI) => u = .ref b.1) (bs.map fun b => Value.ref b.1) bs
  | [] => .nil
  | b :: bs => .cons rfl (each_refs bs)
theorem refs_each : ∀ {us : List Value} {bs : List (Addr × LoadI)}, PySem.W.EachIs (fun (u : Value) (b : Addr × LoadI) => u = .ref b.1) us bs → us = bs.map fun b => Value.ref b.1
  | _, _, .nil => rfl
  | _, _, .cons e r => by rw [e, refs_each r]; rfl
theorem each_reads2 {h : Heap} : ∀ {bs : List (Addr × LoadI)}, (∀ b ∈ bs, ∃ as, Reads h (.ref b.1) (loadZ b.2) as) → PySem.W.EachIs (fun (u : Value) (b : Addr × LoadI) => ∃ as, Reads h u (loadZ b.2) as) (bs.map fun b => Value.ref b.1) bs
  | [], _ => .nil
  | b :: bs, h => .cons (h b List.mem_cons_self) (each_reads2 fun c hc => h c (List.mem_cons_of_mem _ hc))
theorem vals_adrs : ∀ bs : List (Addr × LoadI), Vals (bs.map fun b => V.ref b.1) (bs.map fun b => Value.ref b.1)
  | [] => .nil
  | _ :: bs => .cons rfl (vals_adrs bs)
theorem adrs_vals : ∀ {bs : List (Addr × LoadI)} {us : List Value}, Vals (bs.map fun b => V.ref b.1) us → us = bs.map fun b => Value.ref b.1
  | [], _, .nil => rfl
  | b :: bs, _, .cons r t => by
    cases r
    rw [adrs_vals t]
    rfl
theorem flat_ints : ∀ ns : List Int, flatAll (ns.map PyData.int) = true
  | [] => rfl
  | n :: ns => by
    rw [List.map_cons, flatAll, flat_ints ns]
    rfl
theorem deepD_ints : ∀ ns : List Int, PyData.depthAll (ns.map PyData.int) = 0
  | [] => rfl
  | n :: ns => by
    rw [List.map_cons, PyData.depthAll, deepD_ints ns]
    rfl
theorem loadZ_flat (k : LoadI) : flatD (loadZ k) = true := by
  simp [loadZ, intsD, flatD, flatAll, flat_ints]
theorem loadZ_deep (k : LoadI) : (loadZ k).depth ≤ 60 := by
  simp [loadZ, intsD, PyData.depth, PyData.depthAll, deepD_ints]
theorem loadZ_toD (k : LoadI) : loadZ k = PySem.W.Datum.toD ((PySem.W.Tup.mk k.1, PySem.W.Tup.mk k.2) : PySem.W.Tup Int × PySem.W.Tup Int) := rfl
theorem so_loads {β : Type} (f : β → LoadI) (bs : List β) : SortOk (bs.map fun b => loadZ (f b)) :=
  ⟨PySem.W.AllAlike.of fun b b' => PySem.W.DatumOrd.alike ((PySem.W.Tup.mk (f b).1, PySem.W.Tup.mk (f b).2) : PySem.W.Tup Int × PySem.W.Tup Int) (PySem.W.Tup.mk (f b').1, PySem.W.Tup.mk (f b').2), PySem.W.Sortable.tuples fun b => ⟨_, _, rfl⟩,
    fun d hd => (by obtain ⟨b, _, rfl⟩ := List.mem_map.mp hd; exact loadZ_flat _), fun d hd => (by obtain ⟨b, _, rfl⟩ := List.mem_map.mp hd; exact loadZ_deep _)⟩
section
variable {X : Cx} {K : PySem.W.Frag} {a : Expr} {ta : TE} {p p2 q pos : Pos}
def wSortSet (K : PySem.W.Frag) (x : V) (H : Hp) (Q : VK) : Prop := ∃ (l : Addr) (ks : List (Addr × LoadI)), x = .ref l ∧ SqL K H l (ks.map fun p => V.ref p.1) ∧ (∀ p ∈ ks, LoadH K H p.1 p.2) ∧ (∀ L : List (Addr × LoadI), (∀ p ∈ L, p ∈ ks) → (L.map (·.2)).Nodup → L.length + 1 ≤ 300) ∧
  ∀ (L : List (Addr × LoadI)) r, H r = none → (∀ p ∈ L, p ∈ ks) → (L.map (·.2)).Nodup → (∀ p ∈ ks, p.2 ∈ L.map (·.2)) → Q (.ref r) (upd H r (.lst (L.map fun p => V.ref p.1)))
def tSortSet (K : PySem.W.Frag) (ta : TE) : TE := fun σ H Q => ta σ H fun x H1 => wSortSet K x H1 Q
theorem pe_sortSet (hu : X.A.units + 65 < cLine) (hg : Gl X "sorted") (hm : X.mg "sorted" = none) (hg2 : Gl X "set") (hm2 : X.mg "set" = none) (ha : PE X a ta) (calm : X.calm = true) (hK : X.K = K := by rfl)
    (na : starEach [a] X.env = (false, eval a X.env) :: starEach [] X.env := by rfl) : PE X (.Call (.Name "sorted" p) [.Call (.Name "set" p2) [a] [] q] [] pos) (tSortSet K ta) := by
  subst hK
  refine ⟨fun pins s σ H Q J h => ?_⟩
  refine Call_ (ld_blt J hg hm (show bootBuiltins "sorted" = some (.builtin "sorted") by decide +kernel) (PyProof.Rows.callWith_builtin1 (PyProof.Rows.args_cons ?_ rfl) rfl rfl))
  refine Call_ (ld_blt J hg2 hm2 PyProof.Rows.boot_set (PyProof.Rows.callWith_type1 (PyProof.Rows.args_cons (thn (ha.run pins s σ H _ J h) fun u s1 ⟨x, H1, J1, rx, l, ks, ex, hl, hk, hbd, fin⟩ => PyProof.Rows.args_nil ?_) na) na rfl))
  subst ex
  obtain rfl : u = Value.ref l := rx
  obtain ⟨its, rv, pl, _⟩ := J1.list hl
  have eits := adrs_vals rv
  refine callSetG (kd := loadKey X.prog X.w) ks (J1.ok.hd calm) pl.isList (by simpa using eits) (fun p hp => LoadH.is J1 (hk p hp)) hbd (by omega) fun z ⟨h2, tk, L, es, ep, t, ez, R, g, kp⟩ => PyProof.Rows.args_nil ?_
  subst ez
  obtain ⟨o, ho, hex, hd⟩ := R.obj
  have few := R.few
  have hsz := rows_size R.rows
  have eref : es.toList.map (·.2) = L.map fun p => Value.ref p.1 := by
    rw [R.rows]
    unfold rowsG
    rw [List.map_map]
    rfl
  refine sorted_src (enc := fun b : Addr × LoadI => loadZ b.2) (R := fun u b => u = .ref b.1) (collect_set (A := X.A.in1) (J1.ok.hd calm) ⟨o, ho, hex.1, hd⟩ R.fits (by unfold scanBound; omega) R.tab.asc R.led fun s3 out k3 sz3 g3 o3 pm => ?_)
  rw [eref] at pm
  obtain ⟨bs, pb, eb⟩ := perm_back (fun p : Addr × LoadI => Value.ref p.1) pm rfl
  subst eb
  have sub : ∀ p ∈ bs, p ∈ ks := fun p hp => List.mem_of_mem_take (g.sub p (pb.mem_iff.mp hp))
  have lb : bs.length ≤ 300 := by rw [pb.length_eq]; exact few
  refine ⟨bs, by rw [List.length_map, sizeLine_eq]; omega, each_refs bs, each_reads2 fun b hb => ?_, (so_loads (·.2) bs).al, (so_loads (·.2) bs).so, fun b _ => loadZ_flat _, fun b _ => ?_, fun ot hol he => ?_⟩
  · obtain ⟨as, r⟩ := Dp.reads J1 _ _ _ ((hk b (sub b hb)).dp) (show RelV (.ref b.1) (.ref b.1) from rfl)
    exact ⟨as, PyProof.Rows.Reads.keeps (fun c oc e => k3 c oc (kp c oc e)) r⟩
  · have := loadZ_deep b.2
    omega
  · have eo := refs_each he
    generalize hM : bs.mergeSort (PySem.W.dataLe false fun b : Addr × LoadI => loadZ b.2) = M at eo
    have pM : M.Perm bs := by rw [← hM]; exact List.mergeSort_perm _ _
    have eN : (s3.heap.push (seqObj "list" (bs.map fun p => Value.ref p.1).toArray 0)).get? s3.heap.objs.size = some (seqObj "list" (bs.map fun p => Value.ref p.1).toArray 0) := Heap.get?_push_size _ rfl
    obtain ⟨c, hc⟩ := sortedHeap_at (vs := bs.map fun p => Value.ref p.1) (out := ot.toArray) eN
    have low : s1.heap.objs.size ≤ s3.heap.objs.size := by
      refine Nat.le_trans ?_ sz3
      refine Nat.le_of_not_lt fun lt => ?_
      have lt : h2.objs.size < s1.heap.objs.size := lt
      have e1 : ∃ oc, s1.heap.get? l = some oc := let ⟨oc, e, _⟩ := pl.isList; ⟨oc, e⟩
      exact absurd (Heap.lt_size ho) (Nat.not_lt.mpr (Nat.le_of_lt lt))
    have kept : ∀ b oc, s1.heap.get? b = some oc → (sortedHeap (s3.heap.push (seqObj "list" (bs.map fun p => Value.ref p.1).toArray 0)) s3.heap.objs.size (bs.map fun p => Value.ref p.1) ot.toArray).get? b = some oc := fun b oc e => by
      have e3 := k3 b oc (kp b oc e)
      have lt := Heap.lt_size e3
      rw [sortedHeap_old (Nat.ne_of_lt lt) (by rw [size_push']; exact Nat.lt_succ_of_lt lt)]
      exact Heap.get?_push_of_some _ e3
    have fr : H1 s3.heap.objs.size = none := J1.hok.fresh low
    have lenM : (M.map fun p => V.ref p.1).length ≤ sizeLine := by rw [List.length_map, pM.length_eq, sizeLine_eq]; omega
    have rels : Vals (M.map fun p => V.ref p.1) ot := by rw [eo]; exact vals_adrs M
    have J4 : Inv X pins σ (upd H1 s3.heap.objs.size (.lst (M.map fun p => V.ref p.1))) { s1 with heap := sortedHeap (s3.heap.push (seqObj "list" (bs.map fun p => Value.ref p.1).toArray 0)) s3.heap.objs.size (bs.map fun p => Value.ref p.1) ot.toArray, gens := s3.gens, drawn := s3.drawn, toks := s3.toks } :=
      J1.call (ch := []) (Un.laid kept low fr) (J1.hok.laid kept low ⟨lenM, ot, c, rels, hc⟩) (by rw [g3]; exact J1.bare) fun _ z => nomatch z
    have es : ({ s3 with heap := sortedHeap (s3.heap.push (seqObj "list" (bs.map fun p => Value.ref p.1).toArray 0)) s3.heap.objs.size (bs.map fun p => Value.ref p.1) ot.toArray } : Shared) = { s1 with heap := sortedHeap (s3.heap.push (seqObj "list" (bs.map fun p => Value.ref p.1).toArray 0)) s3.heap.objs.size (bs.map fun p => Value.ref p.1) ot.toArray, gens := s3.gens, drawn := s3.drawn, toks := s3.toks } := by
      cases s3
      cases s1
      cases o3
      rfl
    rw [es]
    exact ⟨.ref _, _, J4, rfl, fin M _ fr (fun p hp => sub p (pM.mem_iff.mp hp)) (((pM.trans pb).map (·.2)).nodup_iff.mpr R.nd) fun p hp => (((pM.trans pb).map (·.2)).mem_iff).mpr (g.all p (by rw [List.take_length]; exact hp))⟩
end
end Kx
end
section
set_option Elab.async false
set_option linter.all false
set_option maxRecDepth 100000
set_option maxHeartbeats 4000000
/-! Dicts with loads as keys, each with True. -/
namespace Kx
open PySem PySem.Spec L2
open PyProof.Rows
def entL (p : Addr × LoadI) : NestedKey × Addr × Value := (loadK p.2, p.1, .bool true)
/-- the dict at a, its keys ks in the order of their coming -/
def NDict (P : Program) (w : World) (a : Addr) (ks : List (Addr × LoadI)) : HO := .ext fun h => (a == sysModules) = false ∧ (ks.map (·.2)).Nodup ∧ ∃ o es ep, h.get? a = some o ∧ o.ExactDict ∧ o.data = .dict es ep ∧ es.toList = (ks.map entL).map (entryOfKey (nestedKind P w))
/-- one more key -/
def putL (ks : List (Addr × LoadI)) (b : Addr) (k : LoadI) : List (Addr × LoadI) := if k ∈ ks.map (·.2) then ks else ks ++ [(b, k)]
theorem at_entL (ks : List (Addr × LoadI)) (k : LoadI) : (atKey (ks.map entL) (loadK k)).isSome = decide (k ∈ ks.map (·.2)) := by
  unfold atKey
  rw [Option.isSome_map]
  apply Bool.eq_iff_iff.mpr
  rw [List.find?_isSome, decide_eq_true_eq]
  constructor
  · rintro ⟨x, hx, e⟩
    obtain ⟨p, hp, rfl⟩ := List.mem_map.mp hx
    exact List.mem_map.mpr ⟨p, hp, loadK_inj (of_decide_eq_true e)⟩
  · intro h
    obtain ⟨p, hp, rfl⟩ := List.mem_map.mp h
    exact ⟨_, List.mem_map.mpr ⟨p, hp, rfl⟩, decide_eq_true rfl⟩
theorem stored_entL (ks : List (Addr × LoadI)) (b : Addr) (k : LoadI) : storedH (ks.map entL) (loadK k) b (.bool true) = (putL ks b k).map entL := by
  unfold storedH putL
  rw [at_entL]
  by_cases h : k ∈ ks.map (·.2)
  · rw [if_pos (decide_eq_true h), if_pos h, List.map_map]
    refine List.map_congr_left fun p _ => ?_
    show putAt (loadK k) (.bool true) (entL p) = entL p
    unfold putAt
    split <;> rfl
  · rw [if_neg (by rw [decide_eq_false h]; decide), if_neg h, List.map_append]
    rfl
theorem putL_keys (ks : List (Addr × LoadI)) (b : Addr) (k : LoadI) (nd : (ks.map (·.2)).Nodup) : ((putL ks b k).map (·.2)).Nodup ∧ (∀ q, q ∈ (putL ks b k).map (·.2) ↔ q ∈ ks.map (·.2) ∨ q = k) ∧ (putL ks b k).length ≤ ks.length + 1 ∧ ∀ p ∈ putL ks b k, p ∈ ks ∨ p = (b, k) := by
  unfold putL
  split
  · rename_i h
    exact ⟨nd, fun q => ⟨.inl, fun z => z.elim id fun e => e ▸ h⟩, Nat.le_succ _, fun p hp => .inl hp⟩
  · rename_i h
    refine ⟨?_, fun q => by rw [List.map_append, List.mem_append]; simp, by simp, fun p hp => by simpa using hp⟩
    rw [List.map_append, List.nodup_append]
    exact ⟨nd, by simp, fun x hx y hy => by rw [show y = k by simpa using hy]; exact fun e => h (e ▸ hx)⟩
theorem nd_new {P : Program} {w : World} {H : Hp} {h : Heap} {a : Addr} {ks : List (Addr × LoadI)} (h1 : (a == sysModules) = false) (h2 : (ks.map (·.2)).Nodup) {o : Obj} {es : Array DictEntry} {ep : Nat} (h3 : h.get? a = some o) (h4 : o.ExactDict) (h5 : o.data = .dict es ep) (h6 : es.toList = (ks.map entL).map (entryOfKey (nestedKind P w))) :
    ObjOk P w H h a (NDict P w a ks) := ⟨⟨h1, h2, o, es, ep, h3, h4, h5, h6⟩, ⟨o, h3⟩, fun _ _ ⟨a1, a2, o, es, ep, a3, a4⟩ k => ⟨a1, a2, o, es, ep, k o a3, a4⟩⟩
section
variable {X : Cx} {K : PySem.W.Frag} {o i value : Expr} {td ty tv : TE} {pos pos' : Pos}
def tDNewL (P : Program) (w : World) : TE := fun _ H Q => ∀ p, H p = none → Q (.ref p) (upd H p (NDict P w p []))
theorem pe_dnewL : PE X (.Dict [] [] pos) (tDNewL X.prog X.w) := ⟨fun pins s σ H Q J h => wpAny_Dict_empty
  ⟨.ref s.heap.objs.size, _, J.laid (a := s.heap.objs.size) (o := NDict X.prog X.w s.heap.objs.size []) (t' := s.toks) (fun _ _ q => Heap.get?_push_of_some _ q) (Nat.le_refl _)
    (nd_new (beq_eq_false_iff_ne.mpr (Ne.symm (Nat.ne_of_lt J.big))) List.nodup_nil (Heap.get?_push_size _ rfl) ⟨rfl, rfl, rfl⟩ rfl rfl), rfl, h _ (J.hok.fresh (Nat.le_refl _))⟩⟩
/-- the dict with its keys, as the kit tells it -/
theorem nd_at {pins : List (Addr × Obj)} {σ : L2.St} {H : Hp} {s : Shared} (J : Inv X pins σ H s) {a : Addr} {ks : List (Addr × LoadI)} (ha : H a = some (NDict X.prog X.w a ks)) (hk : ∀ p ∈ ks, LoadH X.K H p.1 p.2) :
    (a == sysModules) = false ∧ s.heap.DictOfH (nestedKind X.prog X.w) a (ks.map entL) := by
  obtain ⟨h1, h2, oo, es, ep, h3, h4, h5, h6⟩ := (J.hok a _ ha).1
  refine ⟨h1, oo, es, ep, h3, h4, h5, h6, fun x hx => ?_, ?_⟩
  · obtain ⟨p, hp, rfl⟩ := List.mem_map.mp hx
    exact ⟨(LoadH.is J (hk p hp)).nest, loadK_deep _⟩
  · rw [List.map_map]
    have h2 : ((ks.map (·.2)).map loadK).Nodup := List.Pairwise.map _ (fun x y (ne : x ≠ y) e => ne (loadK_inj e)) h2
    rw [List.map_map] at h2
    exact h2
/-- d[k] = True -/
def sPutL (K : PySem.W.Frag) (P : Program) (w : World) (td ty tv : TE) : TS := fun D σ H => tv σ H fun v H1 => td σ H1 fun x H2 => ty σ H2 fun y H3 => ∃ a ks b k, v = .bl true ∧ x = .ref a ∧ y = .ref b ∧ H3 a = some (NDict P w a ks) ∧ (∀ p ∈ ks, LoadH K H3 p.1 p.2) ∧ LoadH K H3 b k ∧ ks.length < sizeLine ∧ D.nx σ (upd H3 a (NDict P w a (putL ks b k)))
theorem ps_putL (hu : X.A.units + 65 < cLine) (ho : PE X o td) (hi : PE X i ty) (hv : PE X value tv) (hs : swapsWith value (some (.Subscript o i pos')) pos.line X.env = pure false) (hK : X.K = K := by rfl) : PS X (.Assign [.Subscript o i pos'] value pos) (sPutL K X.prog X.w td ty tv) := by
  subst hK
  refine ⟨fun pins s σ H D J h => ?_⟩
  refine wpAny_Assign_Subscript (thn (hv.run pins s σ H _ J h) fun r s1 ⟨v, H1, J1, rv, q1⟩ => thn (ho.run pins s1 σ H1 _ J1 q1) fun u s2 ⟨x, H2, J2, rx, q2⟩ => thn (hi.run pins s2 σ H2 _ J2 q2) fun iv s3 ⟨y, H3, J3, ry, a, ks, b, k, ev, ex, ey, ha, hk, hb, few, q3⟩ => ?_) hs
  subst ev ex ey
  obtain rfl : u = Value.ref a := rx
  obtain rfl : iv = Value.ref b := ry
  obtain rfl : r = Value.bool true := rv
  obtain ⟨hsys, dof⟩ := nd_at J3 ha hk
  have nd0 : (ks.map (·.2)).Nodup := (J3.hok a _ ha).1.2.1
  refine wpAny_setItem_heap (knd := nestedKind X.prog X.w) (hsz := by rw [List.length_map]; exact Nat.le_of_lt few) (by show X.A.units + 1 + 8 < cLine; omega) ⟨(LoadH.is J3 hb).nest, loadK_deep _⟩ dof fun h4 ⟨oo, es, ep, b1, b2, b3, b4, _, _⟩ sb => ?_
  rw [stored_entL] at b4
  exact ⟨σ, _, d_write J3 (by rw [ha]; trivial) sb ⟨oo, b1⟩ (nd_new hsys (putL_keys ks b k nd0).1 b1 b2 b3 b4), q3⟩
/-- list(d) -/
def rKeysL (K : PySem.W.Frag) (P : Program) (w : World) : List V → Hp → VK → Prop := fun xs H Q => ∃ a ks, xs = [V.ref a] ∧ H a = some (NDict P w a ks) ∧ (∀ p ∈ ks, LoadH K H p.1 p.2) ∧ ks.length ≤ sizeLine ∧ ∀ p, H p = none → Q (.ref p) (upd H p (.lst (ks.map fun q => V.ref q.1)))
theorem keysL (calm : X.calm = true) (hK : X.K = K := by rfl) : CallR X (.type "list") (rKeysL K X.prog X.w) := by
  subst hK
  intro pins s σ H xs us Q J rv ⟨a, ks, ex, ha, hk, few, q⟩
  subst ex
  rw [Vals.ref1 rv]
  obtain ⟨h1, h2, oo, es, ep, h3, h4, h5, h6⟩ := (J.hok a _ ha).1
  have sz : es.size = ks.length := by
    have z := congrArg List.length h6
    rwa [Array.length_toList, List.length_map, List.length_map] at z
  refine PySem.W.kdl_call (kdl_raw h1 h4 h5) (J.ok.hd calm) h3 (by rw [sz]; exact few) fun h7 tk acc c kp e it => ?_
  have ea : acc.toList = ks.map fun p => Value.ref p.1 := by
    have len : acc.toList.length = ks.length := by rw [Array.length_toList, it.1]; exact sz
    apply List.ext_getElem?
    intro j
    by_cases hj : j < acc.toList.length
    · have hv : acc.toList[j]? = some acc.toList[j] := List.getElem?_eq_getElem hj
      obtain ⟨en, hen, hv2⟩ := it.2 j _ (by rw [← Array.getElem?_toList]; exact hv)
      have z : es.toList[j]? = some en := by rw [Array.getElem?_toList]; exact hen
      have hjk : j < ks.length := by omega
      rw [h6, List.getElem?_map, List.getElem?_map, List.getElem?_eq_getElem hjk] at z
      have ez : entryOfKey (nestedKind X.prog X.w) (entL ks[j]) = en := Option.some.inj z
      rw [hv, hv2, ← ez, List.getElem?_map, List.getElem?_eq_getElem hjk]
      rfl
    · rw [List.getElem?_eq_none (by omega), List.getElem?_eq_none (by rw [List.length_map]; omega)]
  have rels : Vals (ks.map fun p => V.ref p.1) acc.toList := by rw [ea]; exact vals_adrs ks
  refine ⟨.ref s.heap.objs.size, _, J.laid (t' := tk) (o := .lst (ks.map fun p => V.ref p.1)) kp (Nat.le_refl _) ⟨by rw [List.length_map]; exact few, acc.toList, c, rels, by rw [Array.toArray_toList]; exact e⟩, rfl, q _ (J.hok.fresh (Nat.le_refl _))⟩
end
end Kx
end
section
set_option Elab.async false
set_option linter.all false
set_option maxRecDepth 100000
set_option maxHeartbeats 4000000
/-! Comprehensions over two things; sorted(set(..)), dicts of loads, told as data. -/
namespace Kx
open PySem PySem.Spec L2
open PyProof.Rows
section
variable {C : Addr} {K : PySem.W.Frag} {ρ : Ro} {te ta tb tv to : TE} {tt : TT} {wi wi1 : TI} {g g1 : TG} {js js1 vs vs1 : List Nat} {α β : Type}
theorem flat_len {α β : Type} (f : α → List β) (n : Nat) : ∀ (l : List α), (∀ a ∈ l, (f a).length = n) → (l.flatMap f).length = l.length * n
  | [], _ => by simp
  | a :: l, h => by
    rw [List.flatMap_cons, List.length_append, h a List.mem_cons_self, flat_len f n l fun b hb => h b (List.mem_cons_of_mem _ hb), List.length_cons, Nat.succ_mul]
    omega
/-- [v for a in .. for b in ..] -/
theorem evn_lc2 (l1 : List α) (enc1 : α → DV) (l2 : List β) (enc2 : β → DV) (v : α → β → PyData) (hi : EvI C wi ρ (l1.map enc1)) (hl : l1.length * l2.length ≤ 90000) (hj : ∀ j ∈ js, j ∈ vs) (hj1 : ∀ j ∈ js1, j ∈ vs1)
    (ht : ∀ a ∈ l1, ∃ ρ1, EvG C g js (enc1 a) (wipeR ρ vs) ρ1 ∧ EvI C wi1 ρ1 (l2.map enc2) ∧ ∀ b ∈ l2, ∃ ρ2, EvG C g1 js1 (enc2 b) (wipeR ρ1 vs1) ρ2 ∧ Ev C te ρ2 (.d (v a b))) :
    EvN C (tLc2 wi g tYes wi1 g1 tYes te vs vs1) ρ (l1.flatMap fun a => l2.map (v a)) := fun σ U H L S Q q =>
  hi σ U H L S _ fun J U1 H1 gr1 wk D hD => by
    have uD : U1 D = none := up_none gr1.uh hD
    refine ⟨fun i m H' => ∃ U', i + m = l1.length ∧ Gr [D] U1 H1 U' H' ∧ ML U' H' D ((l1.take i).flatMap fun a => l2.map (v a)), ⟨l1.length, U1, by omega, Gr.priv gr1.uh hD, uD, [], upd_same, .nil⟩, fun i m H' ⟨U', em, gr, ml⟩ => ?_⟩
    obtain ⟨w1, w2⟩ := wk U' H' gr.uu gr.uh i
    by_cases hlt : i < l1.length
    · have ea : l1[i]? = some l1[i] := List.getElem?_eq_getElem hlt
      generalize l1[i] = a at ea
      have ha : a ∈ l1 := List.mem_of_getElem? ea
      obtain ⟨go, yl⟩ := w1 (enc1 a) (by rw [List.getElem?_map, ea]; rfl)
      obtain ⟨ρ1, hg, hi1, hb⟩ := ht a ha
      have tk1 := take_succ_at ea
      refine .inr ⟨go, fun H3 => ∃ U3, Gr [D] U1 H1 U3 H3 ∧ ML U3 H3 D ((l1.take (i + 1)).flatMap fun a => l2.map (v a)), fun H3 ⟨U3, a, b⟩ => ⟨m - 1, by omega, U3, by omega, a, b⟩, fun x H2 hy => ?_⟩
      obtain ⟨U2, gr2, rx⟩ := yl x H2 hy
      have L2' : Lo C U2 (wipe σ vs) (wipeR ρ vs) := (L.wipe vs).mono ((gr1.uu.trans gr.uu).trans gr2.uu)
      refine hg _ U2 H2 x L2' gr2.uh rx _ fun σ2 L3 len3 same3 => ⟨?_, ?_⟩
      · rw [wipe_ext (σ := wipe σ vs) (σ' := σ2) (by rw [len3]) fun k hk => same3 k fun z => hk (hj k z), wipe_wipe]
      unfold tYes
      refine iteT ?_
      refine hi1 σ2 U2 H2 L3 gr2.uh _ fun J1 U4 H4 gr4 wk1 => ?_
      have gr04 : Gr [D] U1 H1 U4 H4 := gr.trans (gr2.trans gr4).any
      have ml4 : ML U4 H4 D ((l1.take i).flatMap fun a => l2.map (v a)) := ml.step (M := []) (gr2.trans gr4) (by simp)
      refine ⟨fun j k H' => ∃ U', j + k = l2.length ∧ Same U4 U' ∧ Gr [D] U1 H1 U' H' ∧ ML U' H' D (((l1.take i).flatMap fun a => l2.map (v a)) ++ (l2.take j).map (v a)), ⟨l2.length, U4, by omega, .refl _, gr04, by simpa using ml4⟩, fun j k H5 ⟨U5, ek, s5, gr5, ml5⟩ => ?_⟩
      obtain ⟨z1, z2⟩ := wk1 U5 H5 s5 gr5.uh j
      by_cases hlt2 : j < l2.length
      · have eb : l2[j]? = some l2[j] := List.getElem?_eq_getElem hlt2
        generalize l2[j] = b at eb
        obtain ⟨go2, yl2⟩ := z1 (enc2 b) (by rw [List.getElem?_map, eb]; rfl)
        obtain ⟨ρ2, hg1, hte⟩ := hb b (List.mem_of_getElem? eb)
        refine .inr ⟨go2, fun H7 => ∃ U7, Same U4 U7 ∧ Gr [D] U1 H1 U7 H7 ∧ ML U7 H7 D (((l1.take i).flatMap fun a => l2.map (v a)) ++ (l2.take (j + 1)).map (v a)), fun H7 ⟨U7, a, b, c⟩ => ⟨k - 1, by omega, U7, by omega, a, b, c⟩, fun y H6 hy6 => ?_⟩
        obtain ⟨U6, gr6, ry⟩ := yl2 y H6 hy6
        have L6 : Lo C U6 (wipe σ2 vs1) (wipeR ρ1 vs1) := (L3.wipe vs1).mono ((gr4.uu.trans s5).trans gr6.uu)
        refine hg1 _ U6 H6 y L6 gr6.uh ry _ fun σ3 L7 len7 same7 => ⟨?_, ?_⟩
        · rw [wipe_ext (σ := wipe σ2 vs1) (σ' := σ3) (by rw [len7]) fun k hk => same7 k fun z => hk (hj1 k z), wipe_wipe]
        dsimp only
        refine iteT ?_
        refine hte σ3 U6 H6 L7 gr6.uh _ fun w U8 H8 gr8 r8 => ?_
        obtain ⟨n8, acc, h8, t8⟩ := ml5.step (M := []) (gr6.trans gr8) (by simp)
        have tl := t8.length
        have fl := flat_len (fun a => l2.map (v a)) l2.length (l1.take i) fun a _ => List.length_map ..
        have bound : i * l2.length + l2.length ≤ l1.length * l2.length := by
          have := Nat.mul_le_mul_right l2.length (show i + 1 ≤ l1.length from hlt)
          rw [Nat.succ_mul] at this
          exact this
        refine ⟨acc, h8, szlt ?_, U8, (s5.trans gr6.uu).trans gr8.uu, (gr5.trans (gr6.trans gr8).any).trans (Gr.mut gr8.uh n8 (by simp)), n8, acc ++ [w], upd_same, ?_⟩
        · rw [tl, List.length_append, fl, List.length_map, List.length_take, List.length_take, Nat.min_eq_left (Nat.le_of_lt hlt)]
          omega
        · rw [take_succ_at eb, List.map_append, ← List.append_assoc]
          exact t8.snoc r8
      · have ej : j = l2.length := by omega
        subst ej
        rw [List.take_length] at ml5
        refine .inl ⟨z2 (by rw [List.length_map]; exact Nat.le_refl _), U5, gr5, ?_⟩
        rw [tk1, List.flatMap_append]
        simpa using ml5
    · have ei : i = l1.length := by omega
      subst ei
      rw [List.take_length] at ml
      obtain ⟨n4, acc, h4, t4⟩ := ml
      exact .inl ⟨w2 (by rw [List.length_map]; exact Nat.le_refl _), q D acc U' H' (gr1.trans (gr.drop (by simpa using hD))) (gr1.same.free hD) n4 h4 t4⟩
/-! loads as data -/
theorem adrs_of {U H : Hp} (S : Same U H) : ∀ {vs : List V} {ls : List LoadI}, TdAll U vs (ls.map loadZ) → ∃ ks : List (Addr × LoadI), vs = ks.map (fun p => V.ref p.1) ∧ ks.map (·.2) = ls ∧ ∀ p ∈ ks, LoadH K H p.1 p.2 ∧ Td U (.ref p.1) (loadZ p.2)
  | _, [], t => by
    cases t
    exact ⟨[], rfl, rfl, fun p hp => by cases hp⟩
  | _, l :: ls, t => by
    cases t with
    | cons a t =>
      obtain ⟨p, rfl, hp⟩ := LoadH.of (K := K) S a
      obtain ⟨ks, h1, h2, h3⟩ := adrs_of S t
      refine ⟨(p, l) :: ks, by rw [h1]; rfl, by rw [← h2]; rfl, fun q hq => ?_⟩
      rcases List.mem_cons.mp hq with rfl | hq
      · exact ⟨hp, a⟩
      · exact h3 q hq
theorem td_adrs {U : Hp} : ∀ {ks : List (Addr × LoadI)}, (∀ p ∈ ks, Td U (.ref p.1) (loadZ p.2)) → TdAll U (ks.map fun p => V.ref p.1) ((ks.map (·.2)).map loadZ)
  | [], _ => .nil
  | p :: ks, h => .cons (h p List.mem_cons_self) (td_adrs fun q hq => h q (List.mem_cons_of_mem _ hq))
/-- what sorted(set(xs)) is: the same loads, each once -/
def SameSet (xs : List LoadI) (d : DV) : Prop := ∃ ys : List LoadI, d = .d (.list (ys.map loadZ)) ∧ ys.Nodup ∧ ∀ k, k ∈ ys ↔ k ∈ xs
theorem evp_sortSet {xs : List LoadI} (h : Ev C ta ρ (.d (.list (xs.map loadZ)))) (hbd : ∀ ys : List LoadI, ys.Nodup → (∀ k ∈ ys, k ∈ xs) → ys.length + 1 ≤ 300) : EvP C (tSortSet K ta) ρ (SameSet xs) := fun σ U H L S Q q =>
  h σ U H L S _ fun v U1 H1 g1 r1 => by
    obtain ⟨p, vs, rfl, hp, t⟩ := Td.toLst r1
    obtain ⟨ks, h1, h2, h3⟩ := adrs_of (K := K) g1.uh t
    subst h1 h2
    refine ⟨p, ks, rfl, SqL.of (g1.uh _ _ hp), fun p hp => (h3 p hp).1, fun M hM nd => ?_, fun M r hr hM nd all => ?_⟩
    · have z := hbd (M.map (·.2)) nd fun k hk => by
        obtain ⟨p, hp, rfl⟩ := List.mem_map.mp hk
        exact List.mem_map.mpr ⟨p, hM p hp, rfl⟩
      rwa [List.length_map] at z
    · have ur : U1 r = none := up_none g1.uh hr
      refine q _ (.d (.list ((M.map (·.2)).map loadZ))) _ _ (g1.trans (Gr.new g1.uh hr)) (Td.lst upd_same ((td_adrs fun p hp => (h3 p (hM p hp)).2).mono (same_upd ur))) ⟨M.map (·.2), rfl, nd, fun k => ⟨fun hk => ?_, fun hk => ?_⟩⟩
      · obtain ⟨p, hp, rfl⟩ := List.mem_map.mp hk
        exact List.mem_map.mpr ⟨p, hM p hp, rfl⟩
      · obtain ⟨p, hp, rfl⟩ := List.mem_map.mp hk
        exact all p hp
end
/-! a private dict of loads -/
section
variable {P : Program} {w : World} {C : Addr} {K : PySem.W.Frag} {ρ : Ro} {te ta td ty : TE} {D : Ends} {U H : Hp} {σ : L2.St} {p : Addr} {tz : TS} {i : Nat}
/-- the dict at p has these keys; their tuples are told -/
def DL (P : Program) (w : World) (U H : Hp) (p : Addr) (ls : List LoadI) : Prop := U p = none ∧ ∃ ks : List (Addr × LoadI), H p = some (NDict P w p ks) ∧ ks.map (·.2) = ls ∧ ∀ q ∈ ks, Td U (.ref q.1) (loadZ q.2)
theorem DL.step {M : List Addr} {U' H' : Hp} {ls : List LoadI} (m : DL P w U H p ls) (g : Gr M U H U' H') (hp : p ∉ M) : DL P w U' H' p ls := by
  obtain ⟨h1, ks, h2, h3, h4⟩ := m
  exact ⟨g.none_u (ne_none h2) h1, ks, g.hh _ _ h2 hp, h3, fun q hq => (h4 q hq).mono g.uu⟩
theorem q_dnewL (L : Lo C U σ ρ) (S : Same U H) (k : ∀ p σ' U' H', Gr [] U H U' H' → H p = none → DL P w U' H' p [] → Lo C U' σ' (ρ.set i (some (.adr p))) → tz D σ' H') : tSeq (tAsg (tDNewL P w) (gName i)) tz D σ H :=
  fun p hp => k p _ U _ (Gr.priv S hp) hp ⟨up_none S hp, [], upd_same, rfl, fun q hq => by cases hq⟩ (L.set (d := .adr p) rfl)
theorem load_of {U H : Hp} (S : Same U H) {a : Addr} {k : LoadI} (h : Td U (.ref a) (loadZ k)) : LoadH K H a k := by
  obtain ⟨b, e, z⟩ := LoadH.of (K := K) S h
  cases e
  exact z
theorem s_putL {ls : List LoadI} {k : LoadI} (L : Lo C U σ ρ) (S : Same U H) (hd : Ev C td ρ (.adr p)) (hy : Ev C ty ρ (.d (loadZ k))) (m : DL P w U H p ls) (few : ls.length < 90000)
    (nx : ∀ U' H', Gr [p] U H U' H' → DL P w U' H' p (if k ∈ ls then ls else ls ++ [k]) → Lo C U' σ ρ → D.nx σ H') : sPutL K P w td ty (tC (.bl true)) D σ H := by
  show td σ H _
  refine hd σ U H L S _ fun v U1 H1 g1 r1 => ?_
  obtain rfl : v = .ref p := r1
  refine hy σ U1 H1 (L.mono g1.uu) g1.uh _ fun y U2 H2 g2 r2 => ?_
  obtain ⟨n, ks, h2, h3, h4⟩ := m.step (g1.trans g2) (by simp)
  obtain ⟨b, rfl, hb⟩ := LoadH.of (K := K) g2.uh r2
  have kl : ks.length = ls.length := by rw [← h3, List.length_map]
  refine ⟨p, ks, b, k, rfl, rfl, rfl, h2, fun q hq => load_of g2.uh (h4 q hq), hb, szlt (by omega), nx U2 _ ((g1.trans g2).any.trans (Gr.mut g2.uh n (by simp))) ⟨n, putL ks b k, upd_same, ?_, fun q hq => ?_⟩ (L.mono (g1.trans g2).uu)⟩
  · unfold putL
    rw [h3]
    split
    · exact h3
    · rw [List.map_append, h3]
      rfl
  · unfold putL at hq
    split at hq
    · exact h4 q hq
    · rcases List.mem_append.mp hq with hq | hq
      · exact h4 q hq
      · rw [List.mem_singleton.mp hq]
        exact r2
/-- list(d), told -/
theorem run_keysL {ls : List LoadI} (L : Lo C U σ ρ) (S : Same U H) (hd : Ev C td ρ (.adr p)) (m : DL P w U H p ls) (few : ls.length ≤ 90000) {Q : VK} (k : ∀ v U' H', Gr [] U H U' H' → Td U' v (.list (ls.map loadZ)) → Q v H') : tCB (rKeysL K P w) (tCons td tNil) σ H Q := by
  show td σ H _
  refine hd σ U H L S _ fun v U1 H1 g1 r1 => ?_
  obtain rfl : v = .ref p := r1
  obtain ⟨n, ks, h2, h3, h4⟩ := m.step g1 (by simp)
  have kl : ks.length = ls.length := by rw [← h3, List.length_map]
  refine ⟨p, ks, rfl, h2, fun q hq => load_of g1.uh (h4 q hq), szle (by omega), fun r hr => ?_⟩
  have ur : U1 r = none := up_none g1.uh hr
  rw [← h3] at k
  exact k _ _ _ (g1.trans (Gr.new g1.uh hr)) (Td.lst upd_same ((td_adrs h4).mono (same_upd ur)))
end
end Kx
end
section
set_option Elab.async false
set_option linter.all false
set_option maxRecDepth 100000
set_option maxHeartbeats 4000000
/-! Loops whose slots are told by a word; items of private lists. -/
namespace Kx
open PySem PySem.Spec L2
section
variable {C : Addr} {K : PySem.W.Frag} {ρ ρ' : Ro} {te ta tb tv to ti : TE} {tt : TT} {wi : TI} {g : TG} {js : List Nat} {tu tw tz ts : TS} {D : Ends} {U H : Hp} {σ : L2.St} {d : DV} {p : Addr} {i j : Nat} {z : Int} {c : PyData} {ds : List PyData} {α : Type}
/-- the end of a turn, slots told by a word -/
def NxE (C : Addr) (U : Hp) (I : Ro → Hp → Hp → Prop) : L2.St → Hp → Prop := fun σ H => ∃ ρ U', Same U U' ∧ Same U' H ∧ Lo C U' σ ρ ∧ I ρ U' H
theorem NxE.of {I : Ro → Hp → Hp → Prop} {M : List Addr} {Ub U0 H0 : Hp} (b : Same Ub U0) (g : Gr M U0 H0 U H) (L : Lo C U σ ρ) (r : I ρ U H) : NxE C Ub I σ H := ⟨ρ, U, b.trans g.uu, g.uh, L, r⟩
theorem s_forE (l : List α) (enc : α → DV) (I : Nat → Ro → Hp → Hp → Prop) (ρ0 : Ro) (L : Lo C U σ ρ) (S : Same U H) (hi : ∀ R : It → Hp → Prop, (∀ J U' H', Gr [] U H U' H' → Wk C J U' (l.map enc) → R J H') → wi σ H R) (h0 : Sub ρ0 ρ) (r0 : ∀ U1 H1, Gr [] U H U1 H1 → I 0 ρ0 U1 H1)
    (hs : ∀ i (a : α) ρi Ub U0 H0 U1 H1, l[i]? = some a → I i ρi U0 H0 → Same U Ub → Same Ub U1 → Gr [] U0 H0 U1 H1 → ∃ js ρ', EvG C g js (enc a) ρi ρ' ∧ ∀ σ2, Lo C U1 σ2 ρ' → tu { D with nx := NxE C Ub (I (i + 1)), ct := NxE C Ub (I (i + 1)), bk := D.nx } σ2 H1)
    (hd : ∀ ρ1 U1 H1 σ1, Lo C U1 σ1 ρ1 → Same U U1 → Same U1 H1 → I l.length ρ1 U1 H1 → D.nx σ1 H1) : tFor wi g tu D σ H := by
  refine hi _ fun J U1 H1 g1 wk => ?_
  refine ⟨fun i m σ' H' => ∃ ρi U', i + m = l.length ∧ Same U1 U' ∧ Same U' H' ∧ Lo C U' σ' ρi ∧ I i ρi U' H', ⟨l.length, ρ0, U1, by omega, .refl _, g1.uh, (L.mono g1.uu).sub h0, r0 U1 H1 g1⟩, fun i m σ' H' ⟨ρi, U', em, s1, s2, L', r⟩ => ?_⟩
  obtain ⟨w1, w2⟩ := wk U' H' s1 s2 i
  by_cases hlt : i < l.length
  · have ea : l[i]? = some l[i] := List.getElem?_eq_getElem hlt
    obtain ⟨go, yl⟩ := w1 (enc l[i]) (by rw [List.getElem?_map, ea]; rfl)
    refine .inr ⟨go, fun σ3 H3 => ∃ ρ3 U3, Same U1 U3 ∧ Same U3 H3 ∧ Lo C U3 σ3 ρ3 ∧ I (i + 1) ρ3 U3 H3, fun σ3 H3 ⟨ρ3, U3, a, b, c, e⟩ => ⟨m - 1, by omega, ρ3, U3, by omega, a, b, c, e⟩, fun x H2 hy => ?_⟩
    obtain ⟨U2, g2, rx⟩ := yl x H2 hy
    obtain ⟨js, ρ', hg, body⟩ := hs i l[i] ρi U1 U' H' U2 H2 ea r g1.uu (s1.trans g2.uu) g2
    exact hg σ' U2 H2 x (L'.mono g2.uu) g2.uh rx _ fun σ2 L2' _ _ => body σ2 L2'
  · have ei : i = l.length := by omega
    subst ei
    exact .inl ⟨w2 (by rw [List.length_map]; exact Nat.le_refl _), hd ρi U' H' σ' L' (g1.uu.trans s1) s2 r⟩
theorem q_forE (l : List α) (enc : α → DV) (I : Nat → Ro → Hp → Hp → Prop) (ρ0 : Ro) (L : Lo C U σ ρ) (S : Same U H) (hi : ∀ R : It → Hp → Prop, (∀ J U' H', Gr [] U H U' H' → Wk C J U' (l.map enc) → R J H') → wi σ H R) (h0 : Sub ρ0 ρ) (r0 : ∀ U1 H1, Gr [] U H U1 H1 → I 0 ρ0 U1 H1)
    (hs : ∀ i (a : α) ρi Ub U0 H0 U1 H1, l[i]? = some a → I i ρi U0 H0 → Same U Ub → Same Ub U1 → Gr [] U0 H0 U1 H1 → ∃ js ρ', EvG C g js (enc a) ρi ρ' ∧ ∀ σ2, Lo C U1 σ2 ρ' → tu { D with nx := NxE C Ub (I (i + 1)), ct := NxE C Ub (I (i + 1)), bk := tz D } σ2 H1)
    (hd : ∀ ρ1 U1 H1 σ1, Lo C U1 σ1 ρ1 → Same U U1 → Same U1 H1 → I l.length ρ1 U1 H1 → tz D σ1 H1) : tSeq (tFor wi g tu) tz D σ H := s_forE (D := { D with nx := tz D }) l enc I ρ0 L S hi h0 r0 hs hd
theorem EvI.at {xs : List DV} (h : EvI C wi ρ xs) (L : Lo C U σ ρ) (S : Same U H) : ∀ R : It → Hp → Prop, (∀ J U' H', Gr [] U H U' H' → Wk C J U' xs → R J H') → wi σ H R := fun R q => h σ U H L S R q
/-- xs[k] of a private list -/
theorem run_ixP (m : ML U H p ds) (L : Lo C U σ ρ) (S : Same U H) (hp : Ev C ta ρ (.adr p)) (hb : Ev C tb ρ (iD z)) (hc : atI ds z = some c) {Q : VK} (k : ∀ v U' H', Gr [] U H U' H' → Td U' v c → Q v H') : tOp (rIxL K) ta tb σ H Q := by
  show ta σ H _
  refine hp σ U H L S _ fun v U1 H1 g1 r1 => ?_
  obtain rfl : v = .ref p := r1
  refine hb σ U1 H1 (L.mono g1.uu) g1.uh _ fun w U2 H2 g2 r2 => ?_
  cases Td.toInt r2
  obtain ⟨n, vs, hv, t⟩ := m.step (g1.trans g2) (by simp)
  obtain ⟨jj, h1, h2, h3⟩ := atI_get t.length hc
  obtain ⟨x, a1, a2⟩ := t.get h2
  exact ⟨p, vs, z, x, rfl, rfl, SqL.of hv, h3 x a1, k x U2 H2 (g1.trans g2) a2⟩
/-- for a in xs[k] of a private list of lists -/
theorem walk_ixP {es : List PyData} (m : ML U H p ds) (L : Lo C U σ ρ) (S : Same U H) (hp : Ev C ta ρ (.adr p)) (hb : Ev C tb ρ (iD z)) (hc : atI ds z = some (.list es)) : ∀ R : It → Hp → Prop, (∀ J U' H', Gr [] U H U' H' → Wk C J U' (es.map DV.d) → R J H') → iList K (tOp (rIxL K) ta tb) σ H R := fun R q =>
  run_ixP m L S hp hb hc fun v U' H' g t => by
    obtain ⟨x, vs, rfl, hx, tx⟩ := Td.toLst t
    exact ⟨x, rfl, ⟨vs, SqL.of (g.uh _ _ hx)⟩, q _ U' H' g (wk_list (H := H') hx tx)⟩
end
end Kx
end
section
set_option Elab.async false
set_option linter.all false
set_option maxRecDepth 100000
set_option maxHeartbeats 4000000
/-! Evaluations told by a word. -/
namespace Kx
open PySem PySem.Spec L2
section
variable {C : Addr} {K : PySem.W.Frag} {ρ : Ro} {ta tb te : TE} {r : R2} {d b : DV} {P P2 : DV → Prop}
theorem EvP.mono (h : EvP C te ρ P) (hp : ∀ d, P d → P2 d) : EvP C te ρ P2 := fun σ U H L S Q q => h σ U H L S Q fun v d U1 H1 g1 r1 p1 => q v d U1 H1 g1 r1 (hp d p1)
theorem evp_op (ha : EvP C ta ρ P) (hb : Ev C tb ρ b) (hr : ∀ d, P d → ∃ d2, P2 d2 ∧ RV C r d b d2) : EvP C (tOp r ta tb) ρ P2 := fun σ U H L S Q q =>
  ha σ U H L S _ fun v d U1 H1 g1 r1 p1 => hb σ U1 H1 (L.mono g1.uu) g1.uh _ fun w U2 H2 g2 r2 => by
    obtain ⟨d2, p2, h⟩ := hr d p1
    exact h U2 H2 v w g2.uh (r1.mono g2.uu) r2 Q fun z U3 H3 g3 r3 => q z d2 U3 H3 ((g1.trans g2).trans g3) r3 p2
theorem ev_callP {rc : List V → Hp → VK → Prop} (h : EvP C ta ρ P) (hr : ∀ d2, P d2 → RC C rc [d2] d) : Ev C (tCB rc (tCons ta tNil)) ρ d := fun σ U H L S Q q =>
  h σ U H L S _ fun v d2 U1 H1 g1 r1 p1 => hr d2 p1 U1 H1 [v] g1.uh (.cons r1 .nil) Q fun z U3 H3 g3 r3 => q z U3 H3 (g1.trans g3) r3
theorem rc_min {i j : Int} : RC C (fun xs H Q => ∃ i j, xs = [V.int i, V.int j] ∧ Q (.int (if j < i then j else i)) H) [iD i, iD j] (iD (if j < i then j else i)) := fun U H xs S r Q q => by
  cases r with
  | cons a r =>
    cases r with
    | cons b r =>
      cases r
      cases Td.toInt a
      cases Td.toInt b
      exact ⟨i, j, rfl, q _ U H (.refl S) (.int _)⟩
theorem ev_minN {n m : Nat} (h1 : Ev C ta ρ (iD n)) (h2 : Ev C tb ρ (iD m)) : Ev C (tCB (fun xs H Q => ∃ i j, xs = [V.int i, V.int j] ∧ Q (.int (if j < i then j else i)) H) (tCons ta (tCons tb tNil))) ρ (iD (min n m : Nat)) :=
  (ev_call (eva_cons h1 (eva_cons h2 eva_nil)) rc_min).to (congrArg iD (by split <;> omega))
end
end Kx
end
section
/-! The defs as plain functions. -/
namespace Kx
def chooseI (top : Int) (many : Nat) : Int := if top < many then 0 else (List.range many).foldl (fun (t : Int) (k : Nat) => t * (top - k) / (k + 1)) 1
def loB (t : Int) : Option Int → Bool
  | none => true
  | some l => decide (l ≤ t)
def hiB (t : Int) : Option Int → Bool
  | none => true
  | some l => decide (t ≤ l)
def inb (t : Int) (lo hi : Option Int) : Bool := loB t lo && hiB t hi
def tcN : Nat → List Nat
  | 0 => [0]
  | n + 1 => tcN n ++ (tcN n).map (· + 1)
def thingsOf (ts : List (Nat × Nat)) (c : Nat) : List Nat := (ts.filter fun t => decide (t.2 = c)).map (·.1)
def bitsOf (l : List Nat) : Nat := l.foldl (fun b t => b ||| 2 ^ t) 0
def heldM (ts : List (Nat × Nat)) : Nat → List Nat
  | 0 => [0]
  | c + 1 => heldM ts c ++ (heldM ts c).map (bitsOf (thingsOf ts c) ||| ·)
def heldC (n m : Nat) (ts : List (Nat × Nat)) : List Nat := (heldM ts m).map fun x => (tcN n).getD x 0
def sumsW (s : List Nat) (k : Nat) : List Nat := s ++ s.map (· + k)
def within (sums lims : List Nat) (start : Nat) : Bool := (List.range (sums.length - start)).all fun i => decide (sums.getD (start + i) 0 < lims.getD (start + i) 0)
abbrev Row := List Nat × List Nat
def lastD (s : List Nat) : Nat := s.getD (s.length - 1) 0
def longerOne (lims : List Nat) (most : Nat) (p : Row) : List Row :=
  ((List.range (most + 1 - lastD p.2)).filter fun k => within (sumsW p.2 k) lims p.2.length).map fun k => (p.1 ++ [k], sumsW p.2 k)
def longer (lims : List Nat) (most : Nat) (rows : List Row) : List Row := rows.flatMap (longerOne lims most)
def rowsAt (lims : List Nat) (most : Nat) : Nat → List Row
  | 0 => [([], [0])]
  | i + 1 => longer lims most (rowsAt lims most i)
def shownRows (n m : Nat) (ts : List (Nat × Nat)) : List (List Nat) := ((rowsAt (heldC n m ts) (n - 1) m).filter fun p => decide (lastD p.2 = n - 1)).map (·.1)
/-! lengths -/
theorem tcN_len : ∀ n, (tcN n).length = 2 ^ n
  | 0 => rfl
  | n + 1 => by
    show (tcN n ++ (tcN n).map (· + 1)).length = 2 ^ (n + 1)
    rw [List.length_append, List.length_map, tcN_len n, Nat.pow_succ]
    omega
theorem heldM_len (ts : List (Nat × Nat)) : ∀ n, (heldM ts n).length = 2 ^ n
  | 0 => rfl
  | n + 1 => by
    show (heldM ts n ++ (heldM ts n).map _).length = 2 ^ (n + 1)
    rw [List.length_append, List.length_map, heldM_len ts n, Nat.pow_succ]
    omega
theorem heldC_len (n m : Nat) (ts : List (Nat × Nat)) : (heldC n m ts).length = 2 ^ m := by
  unfold heldC
  rw [List.length_map, heldM_len]
theorem sumsW_len (s : List Nat) (k : Nat) : (sumsW s k).length = 2 * s.length := by
  unfold sumsW
  rw [List.length_append, List.length_map]
  omega
theorem bitsOf_lt (n : Nat) : ∀ (l : List Nat) (b : Nat), b < 2 ^ n → (∀ t ∈ l, t < n) → l.foldl (fun b t => b ||| 2 ^ t) b < 2 ^ n
  | [], b, hb, _ => hb
  | t :: l, b, hb, h => bitsOf_lt n l _ (Nat.or_lt_two_pow hb (Nat.pow_lt_pow_right (by decide) (h t List.mem_cons_self))) fun x hx => h x (List.mem_cons_of_mem _ hx)
theorem thingsOf_lt {n : Nat} {ts : List (Nat × Nat)} (h : ∀ t ∈ ts, t.1 < n) (c : Nat) : ∀ x ∈ thingsOf ts c, x < n := fun x hx => by
  unfold thingsOf at hx
  obtain ⟨t, ht, rfl⟩ := List.mem_map.mp hx
  exact h t (List.mem_filter.mp ht).1
theorem heldM_lt {n : Nat} {ts : List (Nat × Nat)} (h : ∀ t ∈ ts, t.1 < n) : ∀ k, ∀ x ∈ heldM ts k, x < 2 ^ n
  | 0, x, hx => by
    have e : x = 0 := by simpa [heldM] using hx
    rw [e]
    exact Nat.two_pow_pos n
  | k + 1, x, hx => by
    have hx : x ∈ heldM ts k ++ (heldM ts k).map (bitsOf (thingsOf ts k) ||| ·) := hx
    rcases List.mem_append.mp hx with hx | hx
    · exact heldM_lt h k x hx
    · obtain ⟨y, hy, rfl⟩ := List.mem_map.mp hx
      exact Nat.or_lt_two_pow (bitsOf_lt n _ 0 (Nat.two_pow_pos n) (thingsOf_lt h k)) (heldM_lt h k y hy)
theorem lastD_sumsW {s : List Nat} (k : Nat) (h : 0 < s.length) : lastD (sumsW s k) = lastD s + k := by
  unfold lastD
  rw [sumsW_len]
  unfold sumsW
  rw [List.getD_eq_getElem?_getD, List.getElem?_append_right (by omega), List.getElem?_map, List.getD_eq_getElem?_getD]
  have e : 2 * s.length - 1 - s.length = s.length - 1 := by omega
  rw [e, List.getElem?_eq_getElem (show s.length - 1 < s.length by omega)]
  rfl
/-- what a list of rows and sums must be -/
structure RowsOk (lims : List Nat) (most k : Nat) (rows : List Row) : Prop where
  k6 : k ≤ 6
  few : rows.length ≤ 5000
  most6 : most ≤ 6
  len1 : ∀ p ∈ rows, p.1.length = k
  len2 : ∀ p ∈ rows, p.2.length = 2 ^ k
  last : ∀ p ∈ rows, lastD p.2 ≤ most
  lims : 2 ^ (k + 1) ≤ lims.length
theorem one_len (lims : List Nat) {most : Nat} (h : most ≤ 6) (p : Row) : (longerOne lims most p).length ≤ 7 := by
  unfold longerOne
  rw [List.length_map]
  have := List.length_filter_le (fun k => within (sumsW p.2 k) lims p.2.length) (List.range (most + 1 - lastD p.2))
  rw [List.length_range] at this
  omega
theorem all_len (lims : List Nat) {most : Nat} (h : most ≤ 6) : ∀ l : List Row, (l.flatMap (longerOne lims most)).length ≤ 7 * l.length
  | [] => Nat.le_refl _
  | p :: l => by
    rw [List.flatMap_cons, List.length_append, List.length_cons]
    have := one_len lims h p
    have := all_len lims h l
    omega
theorem mem_longer {lims : List Nat} {most : Nat} {rows : List Row} {q : Row} (h : q ∈ longer lims most rows) : ∃ p ∈ rows, ∃ k, k < most + 1 - lastD p.2 ∧ within (sumsW p.2 k) lims p.2.length = true ∧ q = (p.1 ++ [k], sumsW p.2 k) := by
  obtain ⟨p, hp, hq⟩ := List.mem_flatMap.mp h
  unfold longerOne at hq
  obtain ⟨k, hk, rfl⟩ := List.mem_map.mp hq
  obtain ⟨h1, h2⟩ := List.mem_filter.mp hk
  exact ⟨p, hp, k, List.mem_range.mp h1, h2, rfl⟩
theorem rowsAt_few (lims : List Nat) {most : Nat} (h : most ≤ 6) : ∀ i, (rowsAt lims most i).length ≤ 7 ^ i
  | 0 => Nat.le_refl _
  | i + 1 => by
    have h1 := all_len lims h (rowsAt lims most i)
    have h2 := rowsAt_few lims h i
    show ((rowsAt lims most i).flatMap (longerOne lims most)).length ≤ 7 ^ (i + 1)
    rw [Nat.pow_succ]
    omega
theorem rowsAt_mem (lims : List Nat) (most : Nat) : ∀ i, ∀ p ∈ rowsAt lims most i, p.1.length = i ∧ p.2.length = 2 ^ i ∧ lastD p.2 ≤ most
  | 0, p, hp => by
    have e : p = ([], [0]) := by simpa [rowsAt] using hp
    rw [e]
    exact ⟨rfl, rfl, Nat.zero_le _⟩
  | i + 1, q, hq => by
    obtain ⟨p, hp, k, h1, _, rfl⟩ := mem_longer (show q ∈ longer lims most (rowsAt lims most i) from hq)
    obtain ⟨a, b, c⟩ := rowsAt_mem lims most i p hp
    have hpos : 0 < 2 ^ i := Nat.two_pow_pos i
    refine ⟨by rw [List.length_append, a]; rfl, by rw [sumsW_len, b, Nat.pow_succ]; omega, ?_⟩
    rw [lastD_sumsW k (by omega)]
    omega
theorem rowsAt_ok {lims : List Nat} {most m i : Nat} (hm : m ≤ 4) (h6 : most ≤ 6) (hl : lims.length = 2 ^ m) (hi : i < m) : RowsOk lims most i (rowsAt lims most i) := by
  refine ⟨by omega, ?_, h6, fun p hp => (rowsAt_mem lims most i p hp).1, fun p hp => (rowsAt_mem lims most i p hp).2.1, fun p hp => (rowsAt_mem lims most i p hp).2.2, ?_⟩
  · have h1 := rowsAt_few lims h6 i
    have h2 : 7 ^ i ≤ 7 ^ 3 := Nat.pow_le_pow_right (by decide) (by omega)
    omega
  · rw [hl]
    exact Nat.pow_le_pow_right (by decide) hi
theorem pow2_le {n : Nat} (h : n ≤ 6) : 2 ^ n ≤ 64 := Nat.pow_le_pow_right (by decide) h
end Kx
end
section
/-! The defs as plain functions, orders and inward numbers. -/
namespace Kx
/-- a row with one handed over -/
def handI (row : List Int) (g t : Nat) : List Int := (row.set g (row.getD g 0 - 1)).set t ((row.set g (row.getD g 0 - 1)).getD t 0 + 1)
def asI (l : List Nat) : List Int := l.map fun (x : Nat) => (x : Int)
/-- the club at place i has someone ahead to whom it can hand -/
def busyAt (rows : List (List Int)) (row : List Int) (order : List Nat) (i : Nat) : Bool := (order.take i).any fun a => decide (handI row (order.getD i 0) a ∈ rows)
def busyF (rows : List (List Int)) (row : List Int) (order : List Nat) : List Nat := ((List.range order.length).filter (busyAt rows row order)).map fun i => order.getD i 0
def numsF (counts : List Nat) : List Nat := (List.range (counts.foldr max 0 + 1)).map fun k => counts.count k
def inwardN (n m : Nat) (ts : List (Nat × Nat)) (order : List Nat) : List Nat :=
  numsF ((shownRows n m ts).map fun r => (busyF ((shownRows n m ts).map asI) (asI r) order).length)
theorem handI_len (row : List Int) (g t : Nat) : (handI row g t).length = row.length := by
  unfold handI
  rw [List.length_set, List.length_set]
theorem le_foldr_max : ∀ {l : List Nat} {x : Nat}, x ∈ l → x ≤ l.foldr max 0
  | y :: l, x, h => by
    rw [List.foldr_cons]
    rcases List.mem_cons.mp h with rfl | h
    · exact Nat.le_max_left _ _
    · exact Nat.le_trans (le_foldr_max h) (Nat.le_max_right _ _)
theorem foldr_max_mem : ∀ {l : List Nat}, l ≠ [] → l.foldr max 0 ∈ l
  | [x], _ => by simp
  | x :: y :: l, _ => by
    have ih := foldr_max_mem (l := y :: l) (by simp)
    rw [List.foldr_cons]
    rcases Nat.le_total x ((y :: l).foldr max 0) with h | h
    · rw [Nat.max_eq_right h]
      exact List.mem_cons_of_mem _ ih
    · rw [Nat.max_eq_left h]
      exact List.mem_cons_self
theorem busyF_len (rows : List (List Int)) (row : List Int) (order : List Nat) : (busyF rows row order).length ≤ order.length := by
  unfold busyF
  rw [List.length_map]
  have := List.length_filter_le (busyAt rows row order) (List.range order.length)
  rwa [List.length_range] at this
end Kx
end
section
/-! Ties sorted; the pieces of a web. -/
namespace Kx
def pLe (a b : Nat × Nat) : Bool := decide (a.1 < b.1 ∨ (a.1 = b.1 ∧ a.2 ≤ b.2))
def sortP (ts : List (Nat × Nat)) : List (Nat × Nat) := ts.mergeSort pLe
theorem sortP_perm (ts : List (Nat × Nat)) : (sortP ts).Perm ts := List.mergeSort_perm _ _
theorem sortP_sorted (ts : List (Nat × Nat)) : (sortP ts).Pairwise fun a b => a.1 < b.1 ∨ (a.1 = b.1 ∧ a.2 ≤ b.2) := by
  have h := List.pairwise_mergeSort (le := pLe) (fun a b c h1 h2 => by
    have h1 := of_decide_eq_true h1
    have h2 := of_decide_eq_true h2
    exact decide_eq_true (by omega)) (fun a b => by
    rw [Bool.or_eq_true]
    by_cases h : a.1 < b.1 ∨ (a.1 = b.1 ∧ a.2 ≤ b.2)
    · exact .inl (decide_eq_true h)
    · exact .inr (decide_eq_true (by omega))) ts
  exact h.imp fun h => of_decide_eq_true h
/-- marks by pieces -/
def markStep (n : Nat) (marks : List Nat) (t : Nat × Nat) : List Nat := marks.map fun k => if k = marks.getD (n + t.2) 0 then marks.getD t.1 0 else k
def marksF (n m : Nat) (ts : List (Nat × Nat)) : List Nat := ts.foldl (markStep n) (List.range (n + m))
theorem markStep_len (n : Nat) (marks : List Nat) (t : Nat × Nat) : (markStep n marks t).length = marks.length := List.length_map ..
theorem marks_len (n : Nat) : ∀ (ts : List (Nat × Nat)) (marks : List Nat), (ts.foldl (markStep n) marks).length = marks.length
  | [], _ => rfl
  | t :: ts, marks => by
    rw [List.foldl_cons, marks_len n ts, markStep_len]
/-- the web turned over -/
def flipT (ts : List (Nat × Nat)) : List (Nat × Nat) := ts.map fun t => (t.2, t.1)
end Kx
end
section
/-! Loads, numbers told back. -/
namespace Kx
abbrev Load := List Nat × List Nat
def incN (a : List Nat) (i : Nat) : List Nat := a.set i (a.getD i 0 + 1)
def oneMore (l : Load) (t : Nat × Nat) : Load := (incN l.1 t.1, incN l.2 t.2)
theorem incN_len (a : List Nat) (i : Nat) : (incN a i).length = a.length := List.length_set ..
theorem incN_map (a : List Nat) (i : Nat) : (List.range a.length).map (fun j => a.getD j 0 + if j = i then 1 else 0) = incN a i := by
  apply List.ext_getElem
  · rw [List.length_map, List.length_range, incN_len]
  · intro j h1 h2
    have hj : j < a.length := by rwa [List.length_map, List.length_range] at h1
    rw [List.getElem_map, List.getElem_range]
    show _ = (a.set i (a.getD i 0 + 1))[j]'(by rw [List.length_set]; exact hj)
    rw [List.getElem_set, List.getD_eq_getElem?_getD, List.getElem?_eq_getElem hj]
    by_cases e : j = i
    · subst e
      rw [if_pos rfl, if_pos rfl, List.getD_eq_getElem?_getD, List.getElem?_eq_getElem hj]
    · rw [if_neg e, if_neg (Ne.symm e)]
      rfl
/-- the load count by the formula -/
def loadCnt (N : List Nat) (size free : Nat) : Int := ((List.range N.length).map fun k => (N.getD k 0 : Int) * chooseI ((size : Int) + free - k) free).sum
/-- one number told back -/
def altPart (above : Nat) (ns : List Nat) (k j : Nat) : Int := chooseI above j * (ns.getD (k - j) 0 : Int)
def altSum (above : Nat) (ns : List Nat) (k : Nat) : Int := (List.range (k + 1)).foldl (fun t j => if j % 2 = 0 then t + altPart above ns k j else t - altPart above ns k j) 0
def backI (above : Nat) (ns : List Nat) : List Int := (List.range ns.length).map (altSum above ns)
/-- the end without the zeros behind, one number kept -/
def lastIx (l : List Int) : Nat → Nat
  | 0 => 0
  | n + 1 => if 0 < n ∧ l.getD n 0 = 0 then lastIx l n else n + 1
def stripI (l : List Int) : List Int := l.take (lastIx l l.length)
def fromN (above : Nat) (ns : List Nat) : List Int := stripI (backI above ns)
theorem lastIx_le (l : List Int) : ∀ n, lastIx l n ≤ n
  | 0 => Nat.le_refl _
  | n + 1 => by
    unfold lastIx
    split
    · exact Nat.le_trans (lastIx_le l n) (Nat.le_succ n)
    · exact Nat.le_refl _
theorem incN_sum (a : List Nat) (i : Nat) (h : i < a.length) : (incN a i).sum = a.sum + 1 := by
  unfold incN
  induction a generalizing i with
  | nil => simp at h
  | cons x a ih =>
    cases i with
    | zero => simp [Nat.add_comm, Nat.add_left_comm, Nat.add_assoc]
    | succ i =>
      have := ih i (by simpa using h)
      simp only [List.set_cons_succ, List.sum_cons, List.getD_cons_succ]
      omega
end Kx
end
section
/-! the law's numbers told back; its formula. -/
namespace Kx
def stepLast (B : List Int) (r : Nat) : Nat := if 1 < r ∧ B.getD (r - 1) 0 = 0 then r - 1 else r
def lastAt (B : List Int) : Nat → Nat
  | 0 => B.length
  | i + 1 => stepLast B (lastAt B i)
theorem lastIx_one (B : List Int) : lastIx B 1 = 1 := by
  unfold lastIx
  rw [if_neg fun z => absurd z.1 (by decide)]
theorem step_last (B : List Int) : ∀ r, lastIx B (stepLast B r) = lastIx B r
  | 0 => rfl
  | r + 1 => by
    unfold stepLast
    split
    · rename_i h
      show lastIx B r = lastIx B (r + 1)
      conv => rhs; unfold lastIx
      rw [if_pos ⟨by omega, h.2⟩]
    · rfl
theorem step_stop {B : List Int} : ∀ {r : Nat}, stepLast B r = r → lastIx B r = r
  | 0, _ => rfl
  | r + 1, h => by
    unfold lastIx
    rw [if_neg]
    rintro ⟨h1, h2⟩
    unfold stepLast at h
    rw [if_pos ⟨by omega, h2⟩] at h
    omega
theorem step_le (B : List Int) (r : Nat) : stepLast B r ≤ r := by
  unfold stepLast
  split <;> omega
theorem lastAt_ok (B : List Int) : ∀ i, lastIx B (lastAt B i) = lastIx B B.length ∧ lastAt B i ≤ B.length ∧ (lastIx B (lastAt B i) = lastAt B i ∨ lastAt B i + i ≤ B.length)
  | 0 => ⟨rfl, Nat.le_refl _, .inr (Nat.le_refl _)⟩
  | i + 1 => by
    obtain ⟨h1, h2, h3⟩ := lastAt_ok B i
    have hs := step_last B (lastAt B i)
    have hl := step_le B (lastAt B i)
    refine ⟨hs.trans h1, Nat.le_trans hl h2, ?_⟩
    show lastIx B (stepLast B (lastAt B i)) = stepLast B (lastAt B i) ∨ stepLast B (lastAt B i) + (i + 1) ≤ B.length
    by_cases e : stepLast B (lastAt B i) = lastAt B i
    · left
      rw [e]
      exact step_stop e
    · rcases h3 with h3 | h3
      · exfalso
        apply e
        cases hr : lastAt B i with
        | zero => rfl
        | succ r =>
          rw [hr] at h3
          unfold lastIx at h3
          split at h3
          · have := lastIx_le B r
            omega
          · rename_i hn
            unfold stepLast
            rw [if_neg fun z => hn ⟨by omega, z.2⟩]
      · right
        omega
theorem lastAt_end (B : List Int) : lastAt B B.length = lastIx B B.length := by
  obtain ⟨h1, h2, h3⟩ := lastAt_ok B B.length
  rcases h3 with h3 | h3
  · exact h3.symm.trans h1
  · have e : lastAt B B.length = 0 := by omega
    rw [e] at h1 ⊢
    exact h1
def loadCntI (N : List Int) (size free : Nat) : Int := ((List.range N.length).map fun k => N.getD k 0 * chooseI ((size : Int) + free - k) free).sum
end Kx
end
section
/-! A web drawn. -/
namespace Kx
/-- what is constant along the ties is constant -/
def ConnOn (ts : List (Nat × Nat)) (A B : List Nat) : Prop := ∀ φ ψ : Nat → Nat, (∀ t ∈ ts, φ t.1 = ψ t.2) → (∀ i ∈ A, φ i = φ 0) ∧ ∀ j ∈ B, ψ j = φ 0
structure Drawn (n m : Nat) (ts : List (Nat × Nat)) : Prop where
  n1 : 1 ≤ n
  n4 : n ≤ 4
  m1 : 1 ≤ m
  m4 : m ≤ 4
  few : ts.length ≤ 9
  th : ∀ t ∈ ts, t.1 < n
  cl : ∀ t ∈ ts, t.2 < m
  nd : ts.Nodup
  so : sortP ts = ts
  conn : ConnOn ts (List.range n) (List.range m)
def dim2 (n m s : Nat) : Nat := if s = 0 then n else m
def tieOf (s x y : Nat) : Nat × Nat := if s = 0 then (x, y) else (y, x)
def putR (rd : Nat → List Nat) (s x : Nat) : Nat → List Nat := fun i => if i = s then rd s ++ [x] else rd i
structure Tree (n m k : Nat) (lf : List (Nat × Nat)) (rd : Nat → List Nat) (ts : List (Nat × Nat)) : Prop where
  len : lf.length + k + 2 = n + m
  nd : lf.Nodup
  left : ∀ e ∈ lf, e.1 < 2 ∧ e.2 < dim2 n m e.1 ∧ e.2 ∉ rd e.1
  cov : ∀ s, s < 2 → ∀ i, i < dim2 n m s → i ∈ rd s ∨ (s, i) ∈ lf
  ne : ∀ s, s < 2 → rd s ≠ []
  small : ∀ s, (rd s).length ≤ k + 1
  rng : ∀ s, s < 2 → ∀ i ∈ rd s, i < dim2 n m s
  ends : ∀ t ∈ ts, t.1 ∈ rd 0 ∧ t.2 ∈ rd 1
  tnd : ts.Nodup
  tlen : ts.length = k + 1
  conn : ConnOn ts (rd 0) (rd 1)
theorem mem_putR {rd : Nat → List Nat} {s x i j : Nat} : j ∈ putR rd s x i ↔ j ∈ rd i ∨ (i = s ∧ j = x) := by
  unfold putR
  split
  · rename_i h
    subst h
    simp
  · rename_i h
    simp [h]
theorem mem_erase_ne {α : Type} [DecidableEq α] : ∀ {l : List α} {z : Nat} {c : α}, l.Nodup → l[z]? = some c → ∀ x, x ∈ l.eraseIdx z ↔ x ∈ l ∧ x ≠ c
  | [], _, _, _, h, _ => by simp at h
  | y :: l, 0, c, hn, h, x => by
    have e : y = c := by simpa using h
    subst e
    obtain ⟨h1, _⟩ := List.nodup_cons.mp hn
    simp only [List.eraseIdx_cons_zero, List.mem_cons]
    exact ⟨fun hx => ⟨.inr hx, fun e => h1 (e ▸ hx)⟩, fun ⟨a, b⟩ => a.resolve_left b⟩
  | y :: l, z + 1, c, hn, h, x => by
    obtain ⟨h1, h2⟩ := List.nodup_cons.mp hn
    have h : l[z]? = some c := by simpa using h
    have ih := mem_erase_ne h2 h x
    have hc : c ∈ l := List.mem_of_getElem? h
    simp only [List.eraseIdx_cons_succ, List.mem_cons, ih]
    constructor
    · rintro (rfl | ⟨a, b⟩)
      · exact ⟨.inl rfl, fun e => h1 (e ▸ hc)⟩
      · exact ⟨.inr a, b⟩
    · rintro ⟨rfl | a, b⟩
      · exact .inl rfl
      · exact .inr ⟨a, b⟩
theorem Tree.step {n m k z s x y : Nat} {lf : List (Nat × Nat)} {rd : Nat → List Nat} {ts : List (Nat × Nat)} (T : Tree n m k lf rd ts) (hz : lf[z]? = some (s, x)) (hy : y ∈ rd (1 - s)) : Tree n m (k + 1) (lf.eraseIdx z) (putR rd s x) (ts ++ [tieOf s x y]) := by
  have hm : (s, x) ∈ lf := List.mem_of_getElem? hz
  obtain ⟨hs, hx, hxn⟩ := T.left _ hm
  have hs : s < 2 := hs
  have hx : x < dim2 n m s := hx
  have hxn : x ∉ rd s := hxn
  have hlt : z < lf.length := (List.getElem?_eq_some_iff.mp hz).1
  have me := mem_erase_ne T.nd hz
  have s01 : s = 0 ∨ s = 1 := by omega
  refine ⟨?_, ?_, fun e he => ?_, fun i hi j hj => ?_, fun i hi => ?_, fun i => ?_, fun i hi j hj => ?_, fun t ht => ?_, ?_, ?_, ?_⟩
  · rw [List.length_eraseIdx_of_lt hlt]
    have := T.len
    omega
  · exact T.nd.sublist (List.eraseIdx_sublist ..)
  · obtain ⟨h1, h2⟩ := (me e).mp he
    obtain ⟨a, b, c⟩ := T.left e h1
    refine ⟨a, b, fun h => ?_⟩
    rcases mem_putR.mp h with h | ⟨h3, h4⟩
    · exact c h
    · exact h2 (Prod.ext h3 h4)
  · rcases T.cov i hi j hj with h | h
    · exact .inl (mem_putR.mpr (.inl h))
    · by_cases e : (i, j) = (s, x)
      · have e1 := congrArg Prod.fst e
        have e2 := congrArg Prod.snd e
        exact .inl (mem_putR.mpr (.inr ⟨e1, e2⟩))
      · exact .inr ((me _).mpr ⟨h, e⟩)
  · unfold putR
    split
    · simp
    · exact T.ne i hi
  · have := T.small i
    unfold putR
    split
    · rename_i h
      subst h
      rw [List.length_append]
      simp
      omega
    · omega
  · rcases mem_putR.mp hj with h | ⟨h1, h2⟩
    · exact T.rng i hi j h
    · subst h1 h2
      exact hx
  · rcases List.mem_append.mp ht with ht | ht
    · obtain ⟨a, b⟩ := T.ends t ht
      exact ⟨mem_putR.mpr (.inl a), mem_putR.mpr (.inl b)⟩
    · have e := List.mem_singleton.mp ht
      subst e
      rcases s01 with rfl | rfl
      · exact ⟨mem_putR.mpr (.inr ⟨rfl, rfl⟩), mem_putR.mpr (.inl hy)⟩
      · exact ⟨mem_putR.mpr (.inl hy), mem_putR.mpr (.inr ⟨rfl, rfl⟩)⟩
  · rw [List.nodup_append]
    refine ⟨T.tnd, by simp, fun a ha b hb => ?_⟩
    have e := List.mem_singleton.mp hb
    subst e
    rintro rfl
    obtain ⟨c, d⟩ := T.ends _ ha
    rcases s01 with rfl | rfl
    · exact hxn c
    · exact hxn d
  · rw [List.length_append, T.tlen]
    rfl
  · intro φ ψ h
    obtain ⟨a, b⟩ := T.conn φ ψ fun t ht => h t (List.mem_append_left _ ht)
    have ht := h (tieOf s x y) (List.mem_append_right _ (by simp))
    refine ⟨fun i hi => ?_, fun j hj => ?_⟩
    · rcases mem_putR.mp hi with hi | ⟨h1, h2⟩
      · exact a i hi
      · subst h1 h2
        exact Eq.trans ht (b y hy)
    · rcases mem_putR.mp hj with hj | ⟨h1, h2⟩
      · exact b j hj
      · subst h1 h2
        exact Eq.trans (Eq.symm ht) (a y hy)
theorem Tree.full {n m k : Nat} {rd : Nat → List Nat} {ts : List (Nat × Nat)} (T : Tree n m k [] rd ts) : ConnOn ts (List.range n) (List.range m) := by
  intro φ ψ h
  obtain ⟨a, b⟩ := T.conn φ ψ h
  refine ⟨fun i hi => a i ?_, fun j hj => b j ?_⟩
  · exact (T.cov 0 (by decide) i (List.mem_range.mp hi)).resolve_right (by simp)
  · exact (T.cov 1 (by decide) j (List.mem_range.mp hj)).resolve_right (by simp)
theorem Tree.start {n m f : Nat} (hn : 1 ≤ n) (hm : 1 ≤ m) (hf : f < m) : Tree n m 0 ((List.range (n - 1)).map (fun i => (0, i + 1)) ++ ((List.range m).filter fun c => !decide (c = f)).map fun c => (1, c)) (fun s => if s = 0 then [0] else [f]) [(0, f)] := by
  have lenF : ((List.range m).filter fun c => !decide (c = f)).length + 1 = m := by
    have h := List.length_eq_countP_add_countP (fun c => decide (c = f)) (l := List.range m)
    rw [List.length_range] at h
    have h1 : (List.range m).countP (fun c => decide (c = f)) = 1 := by
      have := List.nodup_range (n := m) |>.count (a := f)
      rw [if_pos (List.mem_range.mpr hf)] at this
      rw [← this]
      unfold List.count
      exact List.countP_congr fun x _ => by simp
    have h2 : ((List.range m).filter fun c => !decide (c = f)).length = (List.range m).countP (fun a => decide ¬decide (a = f) = true) := by
      rw [List.countP_eq_length_filter]
      congr 1
      exact List.filter_congr fun x _ => by simp
    omega
  refine ⟨?_, ?_, fun e he => ?_, fun s hs i hi => ?_, fun s _ => ?_, fun s => ?_, fun s hs i hi => ?_, fun t ht => ?_, by simp, rfl, ?_⟩
  · rw [List.length_append, List.length_map, List.length_map, List.length_range]
    omega
  · rw [List.nodup_append]
    refine ⟨?_, ?_, ?_⟩
    · exact List.Pairwise.map _ (fun a b (h : a ≠ b) z => h (by have := congrArg Prod.snd z; omega)) List.nodup_range
    · exact List.Pairwise.map _ (fun a b (h : a ≠ b) z => h (congrArg Prod.snd z)) (List.nodup_range.filter _)
    · intro a ha b hb
      obtain ⟨i, _, rfl⟩ := List.mem_map.mp ha
      obtain ⟨j, _, rfl⟩ := List.mem_map.mp hb
      intro z
      have := congrArg Prod.fst z
      simp at this
  · rcases List.mem_append.mp he with he | he
    · obtain ⟨i, hi, rfl⟩ := List.mem_map.mp he
      have := List.mem_range.mp hi
      refine ⟨by simp, ?_, by simp⟩
      show i + 1 < dim2 n m 0
      unfold dim2
      rw [if_pos rfl]
      omega
    · obtain ⟨c, hc, rfl⟩ := List.mem_map.mp he
      obtain ⟨h1, h2⟩ := List.mem_filter.mp hc
      have := List.mem_range.mp h1
      refine ⟨by simp, ?_, ?_⟩
      · show c < dim2 n m 1
        unfold dim2
        rw [if_neg (by decide)]
        exact this
      · show c ∉ (if (1 : Nat) = 0 then [0] else [f])
        rw [if_neg (by decide)]
        simpa using h2
  · have s01 : s = 0 ∨ s = 1 := by omega
    rcases s01 with rfl | rfl
    · have hi : i < n := hi
      by_cases e : i = 0
      · left
        simp [e]
      · right
        exact List.mem_append_left _ (List.mem_map.mpr ⟨i - 1, List.mem_range.mpr (by omega), by simp; omega⟩)
    · have hi : i < m := hi
      by_cases e : i = f
      · left
        simp [e]
      · right
        exact List.mem_append_right _ (List.mem_map.mpr ⟨i, List.mem_filter.mpr ⟨List.mem_range.mpr hi, by simpa using e⟩, rfl⟩)
  · split <;> simp
  · split <;> simp
  · have s01 : s = 0 ∨ s = 1 := by omega
    rcases s01 with rfl | rfl
    · have e : i = 0 := by simpa using hi
      show i < n
      omega
    · have e : i = f := by simpa using hi
      show i < m
      omega
  · have e := List.mem_singleton.mp ht
    subst e
    simp
  · intro φ ψ h
    have h0 := h (0, f) (by simp)
    refine ⟨fun i hi => ?_, fun j hj => ?_⟩
    · have e : i = 0 := by simpa using hi
      rw [e]
    · have e : j = f := by simpa using hj
      rw [e]
      exact h0.symm
theorem sorted_eq {a b : List (Nat × Nat)} (p : a.Perm b) (ha : a.Pairwise fun a b => a.1 < b.1 ∨ (a.1 = b.1 ∧ a.2 ≤ b.2)) (hb : b.Pairwise fun a b => a.1 < b.1 ∨ (a.1 = b.1 ∧ a.2 ≤ b.2)) : a = b :=
  List.Perm.eq_of_pairwise (fun x y _ _ h1 h2 => Prod.ext (by omega) (by omega)) ha hb p
theorem sortP_eq {a b : List (Nat × Nat)} (p : a.Perm b) : sortP a = sortP b := sorted_eq ((sortP_perm a).trans (p.trans (sortP_perm b).symm)) (sortP_sorted a) (sortP_sorted b)
theorem sortP_idem (a : List (Nat × Nat)) : sortP (sortP a) = sortP a := sortP_eq (sortP_perm a)
theorem ConnOn.more {ts us : List (Nat × Nat)} {A B : List Nat} (h : ConnOn ts A B) (s : ∀ t ∈ ts, t ∈ us) : ConnOn us A B := fun φ ψ k => h φ ψ fun t ht => k t (s t ht)
end Kx
end
section
/-! All loads of a size. -/
namespace Kx
def zeroL (n m : Nat) : Load := (List.replicate n 0, List.replicate m 0)
/-- all loads of a size, some more than once -/
def loadsL (n m : Nat) (ts : List (Nat × Nat)) : Nat → List Load
  | 0 => [zeroL n m]
  | k + 1 => (loadsL n m ts k).flatMap fun l => ts.map (oneMore l)
/-- each load of size k once -/
def LoadsAre (n m : Nat) (ts : List (Nat × Nat)) (k : Nat) (ls : List Load) : Prop := ls.Nodup ∧ ∀ l, l ∈ ls ↔ l ∈ loadsL n m ts k
theorem loadsL_len (n m : Nat) (ts : List (Nat × Nat)) : ∀ k, (loadsL n m ts k).length = ts.length ^ k
  | 0 => rfl
  | k + 1 => by
    have h : ∀ l : List Load, (l.flatMap fun x => ts.map (oneMore x)).length = l.length * ts.length := fun l => by
      induction l with
      | nil => simp
      | cons a l ih =>
        rw [List.flatMap_cons, List.length_append, List.length_map, ih, List.length_cons, Nat.succ_mul]
        omega
    show ((loadsL n m ts k).flatMap _).length = _
    rw [h, loadsL_len n m ts k, Nat.pow_succ]
theorem loadsL_dim (n m : Nat) (ts : List (Nat × Nat)) : ∀ k, ∀ l ∈ loadsL n m ts k, l.1.length = n ∧ l.2.length = m
  | 0, l, h => by
    have e : l = zeroL n m := by simpa [loadsL] using h
    rw [e]
    simp [zeroL]
  | k + 1, l, h => by
    obtain ⟨l0, h0, h1⟩ := List.mem_flatMap.mp h
    obtain ⟨t, _, rfl⟩ := List.mem_map.mp h1
    obtain ⟨a, b⟩ := loadsL_dim n m ts k l0 h0
    exact ⟨(incN_len _ _).trans a, (incN_len _ _).trans b⟩
theorem LoadsAre.step {n m k : Nat} {ts : List (Nat × Nat)} {ls : List Load} (h : LoadsAre n m ts k ls) (x : Load) : x ∈ loadsL n m ts (k + 1) ↔ x ∈ ls.flatMap fun l => ts.map (oneMore l) := by
  show x ∈ (loadsL n m ts k).flatMap _ ↔ _
  rw [List.mem_flatMap, List.mem_flatMap]
  exact ⟨fun ⟨l, a, b⟩ => ⟨l, (h.2 l).mpr a, b⟩, fun ⟨l, a, b⟩ => ⟨l, (h.2 l).mp a, b⟩⟩
theorem nodup_le0 {α : Type} [DecidableEq α] : ∀ {l m : List α}, l.Nodup → (∀ x ∈ l, x ∈ m) → l.length ≤ m.length
  | [], _, _, _ => Nat.zero_le _
  | x :: l, m, hn, hs => by
    obtain ⟨h1, h2⟩ := List.nodup_cons.mp hn
    have hx : x ∈ m := hs x List.mem_cons_self
    have ih := nodup_le0 (m := m.erase x) h2 fun y hy => (List.mem_erase_of_ne fun e => h1 (by rw [← e]; exact hy)).2 (hs y (List.mem_cons_of_mem _ hy))
    rw [List.length_erase_of_mem hx] at ih
    have := List.length_pos_of_mem hx
    rw [List.length_cons]
    omega
theorem LoadsAre.few {n m k : Nat} {ts : List (Nat × Nat)} {ls : List Load} (h : LoadsAre n m ts k ls) : ls.length ≤ ts.length ^ k := by
  rw [← loadsL_len n m ts k]
  exact nodup_le0 h.1 fun x hx => (h.2 x).mp hx
/-- two of the same size have the same length -/
theorem LoadsAre.len {n m k : Nat} {ts : List (Nat × Nat)} {ls ms : List Load} (h : LoadsAre n m ts k ls) (h' : LoadsAre n m ts k ms) : ls.length = ms.length :=
  Nat.le_antisymm (nodup_le0 h.1 fun x hx => (h'.2 x).mpr ((h.2 x).mp hx)) (nodup_le0 h'.1 fun x hx => (h.2 x).mpr ((h'.2 x).mp hx))
theorem incN_comm (a : List Nat) (i j : Nat) : incN (incN a i) j = incN (incN a j) i := by
  by_cases e : i = j
  · rw [e]
  · unfold incN
    have h1 : ∀ {b : List Nat} {i j x : Nat}, i ≠ j → (b.set i x).getD j 0 = b.getD j 0 := fun {b i j x} h => by
      rw [List.getD_eq_getElem?_getD, List.getElem?_set_ne h, List.getD_eq_getElem?_getD]
    rw [h1 e, h1 (Ne.symm e), List.set_comm _ _ e]
theorem oneMore_comm (l : Load) (s t : Nat × Nat) : oneMore (oneMore l s) t = oneMore (oneMore l t) s := by
  unfold oneMore
  rw [incN_comm, incN_comm l.2]
/-- loads by their ties in order: every load of the size is among them -/
def msets (z : Load) : Nat → List (Nat × Nat) → List Load
  | 0, _ => [z]
  | _ + 1, [] => []
  | k + 1, t :: ts => (msets z k (t :: ts)).map (oneMore · t) ++ msets z (k + 1) ts
def msetsN : Nat → Nat → Nat
  | 0 => fun _ => 1
  | k + 1 => fun n => Nat.rec 0 (fun i acc => msetsN k (i + 1) + acc) n
theorem msets_len (z : Load) : ∀ (k : Nat) (ts : List (Nat × Nat)), (msets z k ts).length = msetsN k ts.length
  | 0, _ => by rw [msets]; rfl
  | k + 1, [] => by rw [msets]; rfl
  | k + 1, t :: ts => by
    rw [msets, List.length_append, List.length_map, msets_len z k (t :: ts), msets_len z (k + 1) ts]
    rfl
theorem msets_more (z : Load) : ∀ (k : Nat) (ts : List (Nat × Nat)) (l : Load) (t : Nat × Nat), l ∈ msets z k ts → t ∈ ts → oneMore l t ∈ msets z (k + 1) ts
  | k, [], _, _, _, h => by cases h
  | 0, u :: ts, l, t, h, ht => by
    rw [msets] at h
    have e : l = z := List.mem_singleton.mp h
    subst e
    rw [msets]
    rcases List.mem_cons.mp ht with rfl | ht
    · refine List.mem_append_left _ (List.mem_map.mpr ⟨l, ?_, rfl⟩)
      rw [msets]
      exact List.mem_singleton.mpr rfl
    · refine List.mem_append_right _ (msets_more l 0 ts l t ?_ ht)
      rw [msets]
      exact List.mem_singleton.mpr rfl
  | k + 1, u :: ts, l, t, h, ht => by
    have h0 := h
    rw [msets] at h
    rw [msets]
    rcases List.mem_append.mp h with h | h
    · obtain ⟨l0, h1, rfl⟩ := List.mem_map.mp h
      refine List.mem_append_left _ (List.mem_map.mpr ⟨oneMore l0 t, msets_more z k (u :: ts) l0 t h1 ht, ?_⟩)
      exact (oneMore_comm l0 t u)
    · rcases List.mem_cons.mp ht with rfl | ht
      · exact List.mem_append_left _ (List.mem_map.mpr ⟨l, h0, rfl⟩)
      · exact List.mem_append_right _ (msets_more z (k + 1) ts l t h ht)
theorem loads_msets (n m : Nat) (ts : List (Nat × Nat)) : ∀ k, ∀ l ∈ loadsL n m ts k, l ∈ msets (zeroL n m) k ts
  | 0, l, h => by rw [msets]; exact h
  | k + 1, l, h => by
    obtain ⟨l0, h0, h1⟩ := List.mem_flatMap.mp h
    obtain ⟨t, ht, rfl⟩ := List.mem_map.mp h1
    exact msets_more _ k ts l0 t (loads_msets n m ts k l0 h0) ht
theorem msetsN_165 : ∀ k, k ≤ 3 → ∀ n, n ≤ 9 → msetsN k n ≤ 165 := by decide +kernel
/-- at most 165 loads of three from nine ties -/
theorem loads_165 {n m k : Nat} {ts : List (Nat × Nat)} (hk : k ≤ 3) (ht : ts.length ≤ 9) {ys : List Load} (nd : ys.Nodup) (hs : ∀ l ∈ ys, l ∈ loadsL n m ts k) : ys.length ≤ 165 := by
  refine Nat.le_trans (nodup_le0 nd fun l hl => loads_msets n m ts k l (hs l hl)) ?_
  rw [msets_len]
  exact msetsN_165 k hk _ ht
end Kx
end
section
/-! Counts of loads; what the law asks of a web. -/
namespace Kx
section
variable {α : Type} [DecidableEq α]
/-- each once -/
def dd : List α → List α
  | [] => []
  | x :: l => if x ∈ dd l then dd l else x :: dd l
theorem mem_dd {x : α} : ∀ {l : List α}, x ∈ dd l ↔ x ∈ l
  | [] => Iff.rfl
  | y :: l => by
    unfold dd
    split
    · rename_i h
      rw [mem_dd (l := l), List.mem_cons]
      exact ⟨.inr, fun z => z.elim (fun e => e ▸ (mem_dd (l := l)).mp h) id⟩
    · rw [List.mem_cons, List.mem_cons, mem_dd (l := l)]
theorem nodup_dd : ∀ l : List α, (dd l).Nodup
  | [] => List.nodup_nil
  | y :: l => by
    unfold dd
    split
    · exact nodup_dd l
    · rename_i h
      exact List.nodup_cons.mpr ⟨h, nodup_dd l⟩
end
/-- how many loads of a size -/
def cnt (n m : Nat) (ts : List (Nat × Nat)) (k : Nat) : Nat := (dd (loadsL n m ts k)).length
theorem LoadsAre.cnt {n m k : Nat} {ts : List (Nat × Nat)} {ls : List Load} (h : LoadsAre n m ts k ls) : ls.length = cnt n m ts k := h.len ⟨nodup_dd _, fun _ => mem_dd⟩
theorem cnt_le (n m : Nat) (ts : List (Nat × Nat)) (k : Nat) : cnt n m ts k ≤ ts.length ^ k := by
  rw [← loadsL_len n m ts k]
  exact nodup_le0 (nodup_dd _) fun x hx => mem_dd.mp hx
/-- the counts of loads below the size -/
def cnts (n m : Nat) (ts : List (Nat × Nat)) : List Nat := (List.range (min n m)).map (cnt n m ts)
/-- the ties that are not there -/
def missF (n m : Nat) (ts : List (Nat × Nat)) : List (Nat × Nat) := (List.range n).flatMap fun a => ((List.range m).filter fun b => !decide ((a, b) ∈ ts)).map fun b => (a, b)
theorem mem_missF {n m : Nat} {ts : List (Nat × Nat)} {t : Nat × Nat} (h : t ∈ missF n m ts) : t.1 < n ∧ t.2 < m ∧ t ∉ ts := by
  obtain ⟨a, ha, h⟩ := List.mem_flatMap.mp h
  obtain ⟨b, hb, rfl⟩ := List.mem_map.mp h
  obtain ⟨h1, h2⟩ := List.mem_filter.mp hb
  exact ⟨List.mem_range.mp ha, List.mem_range.mp h1, by simpa using h2⟩
end Kx
end
section
set_option Elab.async false
set_option linter.all false
set_option maxRecDepth 100000
set_option maxHeartbeats 4000000
namespace Kx
open PySem PySem.Spec L2
def topS (i : Nat) : Stmt := PySem.Challenge.pw_treedeals_k48_whole_inward_numbers_count.main.body.getD i (.Pass ⟨0, 0, 0, 0⟩)
def oD : Option Int → DV
  | none => nD
  | some i => iD i
/-! promises -/
abbrev prWhole : Prm (Int × Option Int × Option Int) := .fn (fun x => [iD x.1, oD x.2.1, oD x.2.2]) (fun _ => True) fun x => bD (inb x.1 x.2.1 x.2.2)
abbrev prSeq : Prm (Bool × List PyData) := .fn (fun x => [.d (seqLT x.1 x.2)]) (fun _ => True) fun _ => bD true
abbrev prCouple : Prm (Bool × List PyData) := .fn (fun x => [.d (seqLT x.1 x.2)]) (fun _ => True) fun x => bD (decide (x.2.length = 2))
abbrev prChoose : Prm (Int × Nat) := .fn (fun x => [iD x.1, iD x.2]) (fun x => -1000 ≤ x.1 ∧ x.1 ≤ 1000 ∧ x.2 ≤ 40) fun x => iD (chooseI x.1 x.2)
/-! for callers -/
section
variable {C : Addr} {ρ : Ro} {t : TA} {E : XK}
theorem c_whole (z : Int) (lo hi : Option Int) (h : EvA C t ρ [iD z, oD lo, oD hi]) : Ev C (tCall (prWhole.sp C) [] E t) ρ (bD (inb z lo hi)) := ev_fn (args := prWhole.args) (z, lo, hi) h trivial
theorem c_choose (z : Int) (k : Nat) (h : EvA C t ρ [iD z, iD k]) (h1 : -1000 ≤ z) (h2 : z ≤ 1000) (h3 : k ≤ 40) : Ev C (tCall (prChoose.sp C) [] E t) ρ (iD (chooseI z k)) := ev_fn (args := prChoose.args) (pre := prChoose.pre) (z, k) h ⟨h1, h2, h3⟩
end
end Kx
end
section
set_option Elab.async false
set_option linter.all false
set_option maxRecDepth 100000
set_option maxHeartbeats 4000000
namespace Kx
open PySem PySem.Spec L2
open PyProof.Rows (envOfC)
/-- what the top says of Web's class -/
structure WebC (K : PySem.W.Frag) (C : Addr) : Prop where
  cl : Cls K C
  n1 : NoAttr K C "things"
  n2 : NoAttr K C "clubs"
  n3 : NoAttr K C "ties"
abbrev prCheckClub : Prm ((Nat × Nat × List (Nat × Nat)) × Nat) := .fn (fun x => [.web x.1.1 x.1.2.1 x.1.2.2, iD x.2]) (fun x => x.2 < x.1.2.1) fun x => iD x.2
abbrev prThingsOf : Prm ((Nat × Nat × List (Nat × Nat)) × Nat) := .fn (fun x => [.web x.1.1 x.1.2.1 x.1.2.2, iD x.2]) (fun x => x.2 < x.1.2.1 ∧ x.1.2.2.length ≤ 100) fun x => .d (nT (thingsOf x.1.2.2 x.2))
abbrev prOwnOrder : Prm (Nat × Nat × List (Nat × Nat)) := .fn (fun x => [.web x.1 x.2.1 x.2.2]) (fun x => x.2.1 ≤ 100) fun x => .d (nT (List.range x.2.1))
abbrev prTc : Prm Nat := .fn (fun x => [iD x]) (fun x => x ≤ 6) fun x => .d (nL (tcN x))
abbrev prSums : Prm (List Nat × Nat) := .fn (fun x => [.d (nL x.1), iD x.2]) (fun x => x.1.length ≤ 1000) fun x => .d (nL (sumsW x.1 x.2))
abbrev prWithin : Prm (List Nat × List Nat × Nat) := .fn (fun x => [.d (nL x.1), .d (nL x.2.1), iD x.2.2]) (fun x => x.1.length ≤ x.2.1.length ∧ x.1.length ≤ 1000 ∧ x.2.2 ≤ 1000) fun x => bD (within x.1 x.2.1 x.2.2)
section
variable {C : Addr} {ρ : Ro} {t : TA} {E : XK} {n m : Nat} {ts : List (Nat × Nat)}
theorem c_checkClub (c : Nat) (h : EvA C t ρ [.web n m ts, iD c]) (h1 : c < m) : Ev C (tCall (prCheckClub.sp C) [] E t) ρ (iD c) := ev_fn (args := prCheckClub.args) (pre := prCheckClub.pre) ((n, m, ts), c) h h1
theorem c_thingsOf (c : Nat) (h : EvA C t ρ [.web n m ts, iD c]) (h1 : c < m) (h2 : ts.length ≤ 100) : Ev C (tCall (prThingsOf.sp C) [] E t) ρ (.d (nT (thingsOf ts c))) := ev_fn (args := prThingsOf.args) (pre := prThingsOf.pre) ((n, m, ts), c) h ⟨h1, h2⟩
theorem c_ownOrder (h : EvA C t ρ [.web n m ts]) (h1 : m ≤ 100) : Ev C (tCall (prOwnOrder.sp C) [] E t) ρ (.d (nT (List.range m))) := ev_fn (args := prOwnOrder.args) (pre := prOwnOrder.pre) (n, m, ts) h h1
theorem c_tc (h : EvA C t ρ [iD n]) (h1 : n ≤ 6) : Ev C (tCall (prTc.sp C) [] E t) ρ (.d (nL (tcN n))) := ev_fn (args := prTc.args) (pre := prTc.pre) n h h1
theorem c_sums (s : List Nat) (k : Nat) (h : EvA C t ρ [.d (nL s), iD k]) (h1 : s.length ≤ 1000) : Ev C (tCall (prSums.sp C) [] E t) ρ (.d (nL (sumsW s k))) := ev_fn (args := prSums.args) (pre := prSums.pre) (s, k) h h1
theorem c_within (s l : List Nat) (k : Nat) (h : EvA C t ρ [.d (nL s), .d (nL l), iD k]) (h1 : s.length ≤ l.length) (h2 : s.length ≤ 1000) (h3 : k ≤ 1000) : Ev C (tCall (prWithin.sp C) [] E t) ρ (bD (within s l k)) := ev_fn (args := prWithin.args) (pre := prWithin.pre) (s, l, k) h ⟨h1, h2, h3⟩
end
section
variable {P : Program} {w : World} {K : PySem.W.Frag} {mg : Str → Option Value} {base : Heap} {C : Addr}
abbrev s_choose_count : Stmt := topS 15
abbrev N_choose_count : List Str := ["top", "many", "total", "k"]
theorem sc_choose_count : FnScope N_choose_count ["top", "many"] (defScope s_choose_count) := ⟨rfl, rfl, rfl, by decide +kernel, rfl, by decide +kernel, by decide +kernel⟩
theorem ok_choose_count {f : Addr} {fd : FuncData} (F : Fun K "choose_count" "choose_count" s_choose_count f fd) (m_range : mg "range" = none) :
    FnOk P w K mg base CX0 1 f fd ["top", "many"] (prChoose.sp C) := by
  refine def_ok F sc_choose_count (fun _ => rfl) (by decide) fun cdv A outer s H E hr => ?_
  have nd := sc_choose_count.nd
  refine ⟨_, (pss_cons (ps_if (pt_cmpR op_lt (pv 0) (pv 1) (nomark _)) (pss_one (ps_ret pe_int)) pss_nil)
  (pss_cons (ps_set (i := 2) nd rfl (.inl rfl) pe_int)
  (pss_cons (ps_for PassesOwn.never rfl (pi_range1 (by rfl) m_range (pa_cons (pv 1) pa_nil)) (pg_name (i := 3) nd rfl (.inl rfl)) (pss_one (ps_set (i := 2) nd rfl (.inl rfl) (pe_op op_fdiv (pe_op op_mul (pv 2) (pe_op op_sub (pv 0) (pv 3))) (pe_op op_add (pv 3) pe_int)))))
  (pss_one (ps_ret (pv 2)))))), ?_⟩
  intro y U σ Q S L hp q
  obtain ⟨top, many⟩ := y
  obtain ⟨h1, h2, h3⟩ := hp
  refine q_when L S (evt_test (ev_op (ev_var rfl) (ev_var rfl) (rv_B0 rfl))) (fun hb U1 H1 g1 L1 => ?_) (fun hb U1 H1 g1 L1 => ?_)
  · have hlt : top < (many : Int) := of_decide_eq_true hb
    refine s_ret L1 g1.uh ev_int fun v U2 H2 g2 r2 => q v _ U2 H2 (g1.trans g2) r2 ?_
    show iD 0 = iD (chooseI top many)
    unfold chooseI
    rw [if_pos hlt]
  · have hge : ¬ top < (many : Int) := of_decide_eq_false hb
    refine q_asg L1 g1.uh ev_int fun σ2 U2 H2 g2 L2 => ?_
    refine q_for (List.range many) (fun (j : Nat) => iD j) (fun i => [some (iD top), some (iD many), some (iD ((List.range i).foldl (fun (t : Int) (k : Nat) => t * (top - k) / (k + 1)) 1)), none]) (fun i U' H' => Gr [] U H U' H') L2 g2.uh
      (evi_rngN (eva_cons (ev_var rfl) eva_nil) (by omega)) (.eq (.eq (.eq (.no .nil)))) (fun _ _ g3 => (g1.trans g2).trans g3) ?_ ?_
    · intro i a Ub U3 H3 U4 H4 ea g3 _ sb g4
      obtain ⟨hi, rfl⟩ := rng_at ea
      refine ⟨_, _, evg_name, fun σ4 L4 => ?_⟩
      refine s_asg L4 g4.uh (ev_op (ev_op (ev_var rfl) (ev_op (ev_var rfl) (ev_var rfl) (rv_I0 rfl)) (rv_I (.inr (by constructor <;> omega)) rfl)) (ev_op (ev_var rfl) ev_int (rv_I0 rfl)) (rv_I ⟨by omega, by omega⟩ rfl)) fun σ5 U5 H5 g5 L5 => ?_
      refine Nxt.of sb g5 (L5.sub (.eq (.eq ?_))) ((g3.trans g4).trans g5)
      rw [List.range_succ, List.foldl_append]
      exact .eq (.no .nil)
    · intro U3 H3 σ3 L3 s1 s2 g3
      rw [List.length_range] at L3
      refine s_ret L3 s2 (ev_var rfl) fun v U4 H4 g4 r4 => q v _ U4 H4 (g3.trans g4) r4 ?_
      show iD _ = iD (chooseI top many)
      unfold chooseI
      rw [if_neg hge]
abbrev s_check_club : Stmt := topS 19
abbrev N_check_club : List Str := ["web", "club"]
theorem sc_check_club : FnScope N_check_club ["web", "club"] (defScope s_check_club) := ⟨rfl, rfl, rfl, by decide +kernel, rfl, by decide +kernel, by decide +kernel⟩
theorem ok_check_club {f : Addr} {fd : FuncData} (F : Fun K "check_club" "check_club" s_check_club f fd) (T : WebC K C) (F_is_whole : Has P w K mg base "is_whole" 1 ["thing", "low", "high"] [] (prWhole.sp C)) :
    FnOk P w K mg base CX0 2 f fd ["web", "club"] (prCheckClub.sp C) := by
  refine def_ok F sc_check_club (fun _ => rfl) (by decide) fun cdv A outer s H E hr => ?_
  have nd := sc_check_club.nd
  refine ⟨_, (pss_cons (ps_if (pt_not (pt_val (pe_fn F_is_whole (hr.mono (by decide)) (by rfl) (pa_cons (pv 1) (pa_cons pe_int (pa_cons (pe_op op_sub (fld_K (K := K) rfl (pv 0)) pe_int) pa_nil)))))) (pss_one ps_never) pss_nil)
  (pss_one (ps_ret (pv 1)))), ?_⟩
  intro y U σ Q S L hp q
  obtain ⟨⟨n, m, ts⟩, c⟩ := y
  have hp : c < m := hp
  have L : Lo C U σ [some (.web n m ts), some (iD c)] := L
  refine q_skip L S ((evt_not (evt_B (c_whole c (some 0) (some ((m : Int) - 1)) (eva_cons (ev_var rfl) (eva_cons ev_int (eva_cons (ev_op (ev_clubs (ev_var rfl) T.cl T.n2) ev_int (rv_I0 rfl)) eva_nil)))))).to ?_) fun U1 H1 g1 L1 => ?_
  · have e : inb (c : Int) (some 0) (some ((m : Int) - 1)) = true := by
      show (decide ((0 : Int) ≤ c) && decide ((c : Int) ≤ m - 1)) = true
      rw [decide_eq_true (by omega), decide_eq_true (by omega)]
      rfl
    show (!inb (c : Int) (some 0) (some ((m : Int) - 1))) = false
    rw [e]
    rfl
  · exact s_ret L1 g1.uh (ev_var rfl) fun v U2 H2 g2 r2 => q v _ U2 H2 (g1.trans g2) r2 rfl
abbrev s_things_of : Stmt := topS 20
abbrev N_things_of : List Str := ["web", "club", "kept", "tie"]
theorem sc_things_of : FnScope N_things_of ["web", "club"] (defScope s_things_of) := ⟨rfl, rfl, rfl, by decide +kernel, rfl, by decide +kernel, by decide +kernel⟩
theorem ok_things_of {f : Addr} {fd : FuncData} (F : Fun K "things_of" "things_of" s_things_of f fd) (T : WebC K C) (m_tuple : mg "tuple" = none) (F_check_club : Has P w K mg base "check_club" 2 ["web", "club"] [] (prCheckClub.sp C)) :
    FnOk P w K mg base CX0 3 f fd ["web", "club"] (prThingsOf.sp C) := by
  refine def_ok F sc_things_of (fun _ => rfl) (by decide) fun cdv A outer s H E hr => ?_
  have nd := sc_things_of.nd
  refine ⟨_, (pss_cons (ps_set (i := 2) nd rfl (.inr rfl) (pe_fn F_check_club (hr.mono (by decide)) (by rfl) (pa_cons (pv 0) (pa_cons (pv 1) pa_nil))))
  (pss_one (ps_ret (pe_callTy (tuple_K (K := K)) (by rfl) m_tuple (by decide +kernel) (pa_cons (pe_lc (own := [("tie", 3)]) (g := gName 3) rfl nd (pi_tupK (K := K) rfl (fld_K (K := K) rfl (pv 0))) (blkOk_by (own := [("tie", 3)]) (N := N_things_of) (sc := defScope s_things_of) (by decide +kernel)) (fun _ _ _ _ _ => (pg_name (i := 3) nd rfl (.inl rfl))) (fun _ _ _ _ _ => pts_one (pt_cmpR op_eq (pe_ix (ix_tupK (K := K)) (pv 3) pe_int (fun _ _ => rfl)) (pv 2) (nomark _))) (fun _ _ _ _ _ => (pe_ix (ix_tupK (K := K)) (pv 3) pe_int (fun _ _ => rfl)))) pa_nil))))), ?_⟩
  intro y U σ Q S L hp q
  obtain ⟨⟨n, m, ts⟩, c⟩ := y
  obtain ⟨hp, hl⟩ : c < m ∧ ts.length ≤ 100 := hp
  have L : Lo C U σ [some (.web n m ts), some (iD c), none, none] := L
  refine q_asg L S (c_checkClub c (eva_cons (ev_var rfl) (eva_cons (ev_var rfl) eva_nil)) hp) fun σ1 U1 H1 g1 L1 => ?_
  refine s_ret L1 g1.uh (ev_tuple (eva_cons (evn_lcIf (js := [3]) ts (fun t => .d (pairD t)) (fun t => decide (t.2 = c)) (fun t => nI t.1) (evi_tupM pairD ts (ev_ties (ev_var rfl) T.cl T.n3)) (by omega) (by simp)
    (fun a ha => ⟨_, evg_name, (evt_test (ev_op (ev_op (ev_var rfl) ev_int (rv_ixT (c := nI a.2) rfl)) (ev_var rfl) (rv_eqI ?_))), fun hf => (ev_op (ev_var rfl) ev_int (rv_ixT (c := nI a.1) rfl))⟩)).ev eva_nil) (.inl rfl)) fun v U2 H2 g2 r2 => q v _ U2 H2 (g1.trans g2) r2 ?_
  · exact decide_eq_decide.mpr (by omega)
  · show DV.d (.tuple _) = DV.d (.tuple _)
    unfold thingsOf
    rw [List.map_map]
    rfl
abbrev s_own_order : Stmt := topS 10
abbrev N_own_order : List Str := ["web"]
theorem sc_own_order : FnScope N_own_order ["web"] (defScope s_own_order) := ⟨rfl, rfl, rfl, by decide +kernel, rfl, by decide +kernel, by decide +kernel⟩
theorem ok_own_order {f : Addr} {fd : FuncData} (F : Fun K "own_order" "own_order" s_own_order f fd) (T : WebC K C) (m_range : mg "range" = none) (m_tuple : mg "tuple" = none) :
    FnOk P w K mg base CX0 1 f fd ["web"] (prOwnOrder.sp C) := by
  refine def_ok F sc_own_order (fun _ => rfl) (by decide) fun cdv A outer s H E hr => ?_
  have nd := sc_own_order.nd
  refine ⟨_, (pss_one (ps_ret (pe_tupRg rfl (by rfl) m_tuple (prg_1 (by rfl) m_range (fld_K (K := K) rfl (pv 0)))))), ?_⟩
  intro y U σ Q S L hp q
  obtain ⟨n, m, ts⟩ := y
  have hp : m ≤ 100 := hp
  have L : Lo C U σ [some (.web n m ts)] := L
  refine s_ret L S (ev_tupRg (ev_clubs (ev_var rfl) T.cl T.n2) (by omega) (by omega)) fun v U1 H1 g1 r1 => q v _ U1 H1 g1 r1 ?_
  show DV.d (.tuple (rgD 0 m)) = DV.d (.tuple ((List.range m).map nI))
  unfold rgD
  have e : ((m : Int) - 0).toNat = m := by omega
  rw [e]
  simp
abbrev s_thing_counts : Stmt := topS 23
abbrev N_thing_counts : List Str := ["things", "counts", "_", "many"]
theorem sc_thing_counts : FnScope N_thing_counts ["things"] (defScope s_thing_counts) := ⟨rfl, rfl, rfl, by decide +kernel, rfl, by decide +kernel, by decide +kernel⟩
theorem ok_thing_counts {f : Addr} {fd : FuncData} (F : Fun K "thing_counts" "thing_counts" s_thing_counts f fd) (m_range : mg "range" = none) :
    FnOk P w K mg base CX0 1 f fd ["things"] (prTc.sp C) := by
  refine def_ok F sc_thing_counts (fun _ => rfl) (by decide) fun cdv A outer s H E hr => ?_
  have nd := sc_thing_counts.nd
  refine ⟨_, (pss_cons (ps_set (i := 1) nd rfl (.inl rfl) (pe_lst (pa_cons pe_int pa_nil)))
  (pss_cons (ps_for PassesOwn.never rfl (pi_range1 (by rfl) m_range (pa_cons (pv 0) pa_nil)) (pg_name (i := 2) nd rfl (.inl rfl)) (pss_one (ps_set (i := 1) nd rfl (.inl rfl) (pe_op op_cat (pv 1) (pe_lc (own := [("many", 3)]) (g := gName 3) rfl nd (pi_listK (K := K) rfl (pv 1)) (blkOk_by (own := [("many", 3)]) (N := N_thing_counts) (sc := defScope s_thing_counts) (by decide +kernel)) (fun _ _ _ _ _ => (pg_name (i := 3) nd rfl (.inl rfl))) (fun _ _ _ _ _ => pts_nil) (fun _ _ _ _ _ => (pe_op op_add (pv 3) pe_int)))))))
  (pss_one (ps_ret (pv 1))))), ?_⟩
  intro y U σ Q S L hp q
  have hp : y ≤ 6 := hp
  have hb := pow2_le hp
  refine q_asg L S (evn_lst (ds := [nI 0]) (eva_cons ev_int eva_nil) (by decide)).ev fun σ1 U1 H1 g1 L1 => ?_
  refine q_for (List.range y) (fun (j : Nat) => iD j) (fun i => [some (iD y), some (.d (nL (tcN i))), none, none]) (fun i U' H' => Gr [] U H U' H') L1 g1.uh (evi_rngN (eva_cons (ev_var rfl) eva_nil) (by omega)) (.eq (.eq (.no (.no .nil)))) (fun _ _ g2 => g1.trans g2) ?_ ?_
  · intro i a Ub U2 H2 U3 H3 ea g2 _ sb g3
    obtain ⟨hi, rfl⟩ := rng_at ea
    have hl : (tcN a).length ≤ 64 := by rw [tcN_len]; exact pow2_le (by omega)
    refine ⟨_, _, evg_name, fun σ3 L3 => ?_⟩
    refine s_asg L3 g3.uh ((evn_cat (ev_var rfl) (evn_lc (js := [3]) (tcN a) (fun x => .d (nI x)) (fun x => nI (x + 1)) (evi_listM nI _ (ev_var rfl)) (by omega) (by simp) (fun b hb => ⟨_, evg_name, (ev_op (ev_var rfl) ev_int (rv_I0 rfl))⟩)).ev ?_).ev) fun σ4 U4 H4 g4 L4 => ?_
    · rw [List.length_map, List.length_map]; omega
    · refine Nxt.of sb g4 (L4.sub (.eq ?_)) ((g2.trans g3).trans g4)
      have e : (DV.d (nL (tcN (a + 1)))) = DV.d (.list (List.map nI (tcN a) ++ List.map (fun x => nI (x + 1)) (tcN a))) := by
        show DV.d (.list (List.map nI (tcN a ++ (tcN a).map (· + 1)))) = _
        rw [List.map_append, List.map_map]
        rfl
      rw [e]
      exact .eq (.no (.no .nil))
  · intro U2 H2 σ2 L2 s1 s2 g2
    rw [List.length_range] at L2
    exact s_ret L2 s2 (ev_var rfl) fun v U3 H3 g3 r3 => q v _ U3 H3 (g2.trans g3) r3 rfl
abbrev s_sums_with : Stmt := topS 25
abbrev N_sums_with : List Str := ["sums", "number", "some"]
theorem sc_sums_with : FnScope N_sums_with ["sums", "number"] (defScope s_sums_with) := ⟨rfl, rfl, rfl, by decide +kernel, rfl, by decide +kernel, by decide +kernel⟩
theorem ok_sums_with {f : Addr} {fd : FuncData} (F : Fun K "sums_with" "sums_with" s_sums_with f fd) :
    FnOk P w K mg base CX0 1 f fd ["sums", "number"] (prSums.sp C) := by
  refine def_ok F sc_sums_with (fun _ => rfl) (by decide) fun cdv A outer s H E hr => ?_
  have nd := sc_sums_with.nd
  refine ⟨_, (pss_one (ps_ret (pe_op op_cat (pv 0) (pe_lc (own := [("some", 2)]) (g := gName 2) rfl nd (pi_listK (K := K) rfl (pv 0)) (blkOk_by (own := [("some", 2)]) (N := N_sums_with) (sc := defScope s_sums_with) (by decide +kernel)) (fun _ _ _ _ _ => (pg_name (i := 2) nd rfl (.inl rfl))) (fun _ _ _ _ _ => pts_nil) (fun _ _ _ _ _ => (pe_op op_add (pv 2) (pv 1))))))), ?_⟩
  intro y U σ Q S L hp q
  obtain ⟨s, k⟩ := y
  have hp : s.length ≤ 1000 := hp
  have L : Lo C U σ [some (.d (nL s)), some (iD k), none] := L
  refine s_ret L S ((evn_cat (ev_var rfl) (evn_lc (js := [2]) s (fun x => .d (nI x)) (fun x => nI (x + k)) (evi_listM nI _ (ev_var rfl)) (by omega) (by simp) (fun b hb => ⟨_, evg_name, (ev_op (ev_var rfl) (ev_var rfl) (rv_I0 rfl))⟩)).ev ?_).ev) fun v U1 H1 g1 r1 => q v _ U1 H1 g1 r1 ?_
  · rw [List.length_map, List.length_map]; omega
  · show DV.d (.list _) = DV.d (.list ((s ++ s.map (· + k)).map nI))
    rw [List.map_append, List.map_map]
    rfl
abbrev s_is_within : Stmt := topS 26
abbrev N_is_within : List Str := ["sums", "limits", "start", "place"]
theorem sc_is_within : FnScope N_is_within ["sums", "limits", "start"] (defScope s_is_within) := ⟨rfl, rfl, rfl, by decide +kernel, rfl, by decide +kernel, by decide +kernel⟩
theorem ok_is_within {f : Addr} {fd : FuncData} (F : Fun K "is_within" "is_within" s_is_within f fd) (m_len : mg "len" = none) (m_range : mg "range" = none) :
    FnOk P w K mg base CX0 1 f fd ["sums", "limits", "start"] (prWithin.sp C) := by
  refine def_ok F sc_is_within (fun _ => rfl) (by decide) fun cdv A outer s H E hr => ?_
  have nd := sc_is_within.nd
  refine ⟨_, (pss_cons (ps_for PassesOwn.never rfl (pi_range2 (by rfl) m_range (pa_cons (pv 2) (pa_cons (pe_callB (len_K (K := K)) (by rfl) m_len (by decide +kernel) (pa_cons (pv 0) pa_nil)) pa_nil))) (pg_name (i := 3) nd rfl (.inl rfl)) (pss_one (ps_if (pt_cmpR op_ge (pe_ix (ix_listK (K := K)) (pv 0) (pv 3) (fun _ _ => rfl)) (pe_ix (ix_listK (K := K)) (pv 1) (pv 3) (fun _ _ => rfl)) (nomark _)) (pss_one (ps_ret pe_bl)) pss_nil)))
  (pss_one (ps_ret pe_bl))), ?_⟩
  intro y U σ Q S L hp q
  obtain ⟨sums, lims, start⟩ := y
  obtain ⟨h1, h2, h3⟩ : sums.length ≤ lims.length ∧ sums.length ≤ 1000 ∧ start ≤ 1000 := hp
  have L : Lo C U σ [some (.d (nL sums)), some (.d (nL lims)), some (iD start), none] := L
  let ok : Nat → Bool := fun i => decide (sums.getD (start + i) 0 < lims.getD (start + i) 0)
  refine q_for (List.range (((sums.length : Int) - start).toNat)) (fun (k : Nat) => iD (start + (k : Nat))) (fun i => [some (.d (nL sums)), some (.d (nL lims)), some (iD start), none]) (fun i U' H' => Gr [] U H U' H' ∧ (List.range i).all ok = true) L S
    (evi_rng2 (eva_cons (ev_var rfl) (eva_cons (ev_call (eva_cons (ev_var rfl) eva_nil) rc_lenLM) eva_nil)) (by omega) (by omega) (by omega) (by omega)) (.eq (.eq (.eq (.no .nil)))) (fun _ _ g => ⟨g, rfl⟩) ?_ ?_
  · intro i a Ub U2 H2 U3 H3 ea ⟨g2, hall⟩ _ sb g3
    obtain ⟨hi, rfl⟩ := rng_at ea
    have h4 : start + a < sums.length := by omega
    have h5 : start + a < lims.length := by omega
    refine ⟨_, _, evg_name, fun σ3 L3 => ?_⟩
    have ec : ((start : Int) + (a : Nat)) = ((start + a : Nat) : Int) := by omega
    rw [ec] at L3
    refine s_when L3 g3.uh (evt_test (ev_op (ev_op (ev_var rfl) (ev_var rfl) (rv_ixL (at_map (getD_at (d := 0) h4)))) (ev_op (ev_var rfl) (ev_var rfl) (rv_ixL (at_map (getD_at (d := 0) h5)))) (rv_B0 rfl))) (fun hb U4 H4 g4 L4 => ?_) (fun hb U4 H4 g4 L4 => ?_)
    · refine s_ret L4 g4.uh ev_bl fun v U5 H5 g5 r5 => q v _ U5 H5 (((g2.trans g3).trans g4).trans g5) r5 ?_
      have hok : ok a = false := by
        have := of_decide_eq_true hb
        exact decide_eq_false (by omega)
      have e : within sums lims start = false := List.all_eq_false.mpr ⟨a, List.mem_range.mpr (by omega), by rw [show decide (sums.getD (start + a) 0 < lims.getD (start + a) 0) = false from hok]; decide⟩
      show bD false = bD (within sums lims start)
      rw [e]
    · refine nx_of ?_
      refine Nxt.of sb g4 (L4.sub (.eq (.eq (.eq (.no .nil))))) (And.intro ((g2.trans g3).trans g4) ?_)
      have hok : ok a = true := by
        have := of_decide_eq_false hb
        exact decide_eq_true (by omega)
      rw [List.range_succ, List.all_append, hall]
      show (true && (ok a && true)) = true
      rw [hok]
      rfl
  · intro U2 H2 σ2 L2 s1 s2 ⟨g2, hall⟩
    refine s_ret L2 s2 ev_bl fun v U3 H3 g3 r3 => q v _ U3 H3 (g2.trans g3) r3 ?_
    have e0 : ((sums.length : Int) - start).toNat = sums.length - start := by omega
    rw [List.length_range, e0] at hall
    have e : within sums lims start = true := hall
    show bD true = bD (within sums lims start)
    rw [e]
end
end Kx
end
section
set_option Elab.async false
set_option linter.all false
set_option maxRecDepth 100000
set_option maxHeartbeats 4000000
namespace Kx
open PySem PySem.Spec L2
open PyProof.Rows (envOfC)
def rowD (p : Row) : PyData := .tuple [nT p.1, nL p.2]
abbrev prHeld : Prm (Nat × Nat × List (Nat × Nat)) := .fn (fun x => [.web x.1 x.2.1 x.2.2]) (fun x => x.1 ≤ 6 ∧ x.2.1 ≤ 6 ∧ x.2.2.length ≤ 100 ∧ ∀ t ∈ x.2.2, t.1 < x.1) fun x => .d (nL (heldC x.1 x.2.1 x.2.2))
abbrev prLonger : Prm (List Row × List Nat × Nat × Nat) := .fn (fun x => [.d (.list (x.1.map rowD)), .d (nL x.2.1), iD x.2.2.1]) (fun x => RowsOk x.2.1 x.2.2.1 x.2.2.2 x.1) fun x => .d (.list ((longer x.2.1 x.2.2.1 x.1).map rowD))
section
variable {C : Addr} {ρ : Ro} {t : TA} {E : XK} {n m : Nat} {ts : List (Nat × Nat)}
theorem c_held (h : EvA C t ρ [.web n m ts]) (h1 : n ≤ 6) (h2 : m ≤ 6) (h3 : ts.length ≤ 100) (h4 : ∀ t ∈ ts, t.1 < n) : Ev C (tCall (prHeld.sp C) [] E t) ρ (.d (nL (heldC n m ts))) := ev_fn (args := prHeld.args) (pre := prHeld.pre) (n, m, ts) h ⟨h1, h2, h3, h4⟩
theorem c_longer (rows : List Row) (lims : List Nat) (most k : Nat) (h : EvA C t ρ [.d (.list (rows.map rowD)), .d (nL lims), iD most]) (h1 : RowsOk lims most k rows) : Ev C (tCall (prLonger.sp C) [] E t) ρ (.d (.list ((longer lims most rows).map rowD))) :=
  ev_fn (args := prLonger.args) (pre := prLonger.pre) (rows, lims, most, k) h h1
end
theorem or_nn (a b : Nat) : Builtin.bitOr (a : Int) (b : Int) = ((a ||| b : Nat) : Int) := by
  have h := bitOr_nn (x := (a : Int)) (y := (b : Int)) (by omega) (by omega)
  rw [Int.toNat_natCast, Int.toNat_natCast] at h
  exact h
section
variable {P : Program} {w : World} {K : PySem.W.Frag} {mg : Str → Option Value} {base : Heap} {C : Addr}
abbrev s_held_counts : Stmt := topS 24
abbrev N_held_counts : List Str := ["web", "held", "club", "bits", "thing", "counts", "some"]
theorem sc_held_counts : FnScope N_held_counts ["web"] (defScope s_held_counts) := ⟨rfl, rfl, rfl, by decide +kernel, rfl, by decide +kernel, by decide +kernel⟩
theorem ok_held_counts {f : Addr} {fd : FuncData} (F : Fun K "held_counts" "held_counts" s_held_counts f fd) (T : WebC K C) (m_range : mg "range" = none) (F_thing_counts : Has P w K mg base "thing_counts" 1 ["things"] [] (prTc.sp C)) (F_things_of : Has P w K mg base "things_of" 3 ["web", "club"] [] (prThingsOf.sp C)) :
    FnOk P w K mg base CX0 4 f fd ["web"] (prHeld.sp C) := by
  refine def_ok F sc_held_counts (fun _ => rfl) (by decide) fun cdv A outer s H E hr => ?_
  have nd := sc_held_counts.nd
  refine ⟨_, (pss_cons (ps_set (i := 1) nd rfl (.inl rfl) (pe_lst (pa_cons pe_int pa_nil)))
  (pss_cons (ps_for PassesOwn.never rfl (pi_range1 (by rfl) m_range (pa_cons (fld_K (K := K) rfl (pv 0)) pa_nil)) (pg_name (i := 2) nd rfl (.inl rfl)) (pss_cons (ps_set (i := 3) nd rfl (.inr rfl) pe_int)
  (pss_cons (ps_for PassesOwn.never rfl (pi_tupK (K := K) rfl (pe_fn F_things_of (hr.mono (by decide)) (by rfl) (pa_cons (pv 0) (pa_cons (pv 2) pa_nil)))) (pg_name (i := 4) nd rfl (.inl rfl)) (pss_one (ps_set (i := 3) nd rfl (.inr rfl) (pe_op op_or (pv 3) (pe_op op_shl pe_int (pv 4))))))
  (pss_one (ps_set (i := 1) nd rfl (.inl rfl) (pe_op op_cat (pv 1) (pe_lc (own := [("some", 6)]) (g := gName 6) rfl nd (pi_listK (K := K) rfl (pv 1)) (blkOk_by (own := [("some", 6)]) (N := N_held_counts) (sc := defScope s_held_counts) (by decide +kernel)) (fun _ _ _ _ _ => (pg_name (i := 6) nd rfl (.inl rfl))) (fun _ _ _ _ _ => pts_nil) (fun _ _ _ _ _ => (pe_op op_or (pv 3) (pv 6))))))))))
  (pss_cons (ps_set (i := 5) nd rfl (.inr rfl) (pe_fn F_thing_counts (hr.mono (by decide)) (by rfl) (pa_cons (fld_K (K := K) rfl (pv 0)) pa_nil)))
  (pss_one (ps_ret (pe_lc (own := [("some", 6)]) (g := gName 6) rfl nd (pi_listK (K := K) rfl (pv 1)) (blkOk_by (own := [("some", 6)]) (N := N_held_counts) (sc := defScope s_held_counts) (by decide +kernel)) (fun _ _ _ _ _ => (pg_name (i := 6) nd rfl (.inl rfl))) (fun _ _ _ _ _ => pts_nil) (fun _ _ _ _ _ => (pe_ix (ix_listK (K := K)) (pv 5) (pv 6) (fun _ _ => rfl))))))))), ?_⟩
  intro y U σ Q S L hp q
  obtain ⟨n, m, ts⟩ := y
  obtain ⟨h1, h2, h3, h4⟩ : n ≤ 6 ∧ m ≤ 6 ∧ ts.length ≤ 100 ∧ ∀ t ∈ ts, t.1 < n := hp
  have L : Lo C U σ [some (.web n m ts), none, none, none, none, none, none] := L
  refine q_asg L S (evn_lst (ds := [nI 0]) (eva_cons ev_int eva_nil) (by decide)).ev fun σ1 U1 H1 g1 L1 => ?_
  refine q_for (List.range m) (fun (j : Nat) => iD j) (fun i => [some (.web n m ts), some (.d (nL (heldM ts i))), none, none, none, none, none]) (fun i U' H' => Gr [] U H U' H') L1 g1.uh (evi_rngN (eva_cons (ev_clubs (ev_var rfl) T.cl T.n2) eva_nil) (by omega))
    (.eq (.eq (.no (.no (.no (.no (.no .nil))))))) (fun _ _ g2 => g1.trans g2) ?_ ?_
  · intro i a Ub U2 H2 U3 H3 ea g2 _ sb g3
    obtain ⟨hi, rfl⟩ := rng_at ea
    refine ⟨_, _, evg_name, fun σ3 L3 => ?_⟩
    have L3 : Lo C U3 σ3 [some (.web n m ts), some (.d (nL (heldM ts a))), some (iD a), none, none, none, none] := L3
    refine q_asg L3 g3.uh ev_int fun σ4 U4 H4 g4 L4 => ?_
    refine q_for (thingsOf ts a) (fun (j : Nat) => .d (nI j)) (fun i => [some (.web n m ts), some (.d (nL (heldM ts a))), some (iD a), some (.d (nI (bitsOf ((thingsOf ts a).take i)))), none, none, none]) (fun i U' H' => Gr [] U H U' H') L4 g4.uh
      (evi_tupM nI (thingsOf ts a) (c_thingsOf a (eva_cons (ev_var rfl) (eva_cons (ev_var rfl) eva_nil)) hi h3)) (.eq (.eq (.eq (.eq (.no (.no (.no .nil))))))) (fun _ _ g5 => ((g2.trans g3).trans g4).trans g5) ?_ ?_
    · intro j b Ub' U5 H5 U6 H6 eb g5 _ sb' g6
      have hb : b < n := thingsOf_lt h4 a b (List.mem_of_getElem? eb)
      refine ⟨_, _, evg_name, fun σ6 L6 => ?_⟩
      refine s_asg L6 g6.uh (ev_op (ev_var rfl) (ev_op ev_int (ev_var rfl) (rv_I (k := ((2 ^ b : Nat) : Int)) ⟨by omega, by omega, by decide⟩ ?_)) (rv_I0 (k := ((bitsOf ((thingsOf ts a).take j) ||| 2 ^ b : Nat) : Int)) ?_)) fun σ7 U7 H7 g7 L7 => ?_
      · show V.int (1 * 2 ^ (b : Int).toNat) = V.int ((2 ^ b : Nat) : Int)
        rw [Int.toNat_natCast, Int.one_mul, Int.natCast_pow]
        rfl
      · show V.int (Builtin.bitOr _ _) = _
        rw [or_nn]
      · have e : bitsOf ((thingsOf ts a).take (j + 1)) = bitsOf ((thingsOf ts a).take j) ||| 2 ^ b := by
          unfold bitsOf
          rw [take_succ_at eb, List.foldl_append]
          rfl
        refine nx_of (Nxt.of sb' g7 (L7.sub (.eq (.eq (.eq ?_)))) ((g5.trans g6).trans g7))
        rw [e]
        exact .eq (.no (.no (.no .nil)))
    · intro U5 H5 σ5 L5 s1 s2 g5
      rw [List.take_length] at L5
      have hl : (heldM ts a).length ≤ 64 := by rw [heldM_len]; exact pow2_le (by omega)
      refine s_asg L5 s2 ((evn_cat (ev_var rfl) (evn_lc (js := [6]) (heldM ts a) (fun x => .d (nI x)) (fun x => nI (bitsOf (thingsOf ts a) ||| x)) (evi_listM nI _ (ev_var rfl)) (by omega) (by simp)
        (fun b hb => ⟨_, evg_name, (ev_op (ev_var rfl) (ev_var rfl) (rv_I0 ?_))⟩)).ev ?_).ev) fun σ6 U6 H6 g6 L6 => ?_
      · show V.int (Builtin.bitOr _ _) = _
        rw [or_nn]
      · rw [List.length_map, List.length_map]; omega
      · have e : (DV.d (nL (heldM ts (a + 1)))) = DV.d (.list (List.map nI (heldM ts a) ++ List.map (fun x => nI (bitsOf (thingsOf ts a) ||| x)) (heldM ts a))) := by
          show DV.d (.list (List.map nI (heldM ts a ++ (heldM ts a).map _))) = _
          rw [List.map_append, List.map_map]
          rfl
        refine nx_of (Nxt.of ((sb.trans g4.uu).trans s1) g6 (L6.sub (.eq ?_)) (g5.trans g6))
        rw [e]
        exact .eq (.no (.no (.no (.no (.no .nil)))))
  · intro U2 H2 σ2 L2 s1 s2 g2
    rw [List.length_range] at L2
    refine q_asg L2 s2 (c_tc (eva_cons (ev_things (ev_var rfl) T.cl T.n1) eva_nil) h1) fun σ3 U3 H3 g3 L3 => ?_
    have hl : (heldM ts m).length ≤ 64 := by rw [heldM_len]; exact pow2_le h2
    refine s_ret L3 g3.uh (evn_lc (js := [6]) (heldM ts m) (fun x => .d (nI x)) (fun x => nI ((tcN n).getD x 0)) (evi_listM nI _ (ev_var rfl)) (by omega) (by simp)
      (fun b hb => ⟨_, evg_name, (ev_op (ev_var rfl) (ev_var rfl) (rv_ixL (at_map (getD_at ?_))))⟩)).ev fun v U4 H4 g4 r4 => q v _ U4 H4 ((g2.trans g3).trans g4) r4 ?_
    · rw [tcN_len]; exact heldM_lt h4 m b hb
    · show DV.d (.list _) = DV.d (.list ((heldC n m ts).map nI))
      unfold heldC
      rw [List.map_map]
      rfl
abbrev s_longer_rows : Stmt := topS 27
abbrev N_longer_rows : List Str := ["rows", "limits", "most", "longer", "numbers", "sums", "number", "more"]
theorem sc_longer_rows : FnScope N_longer_rows ["rows", "limits", "most"] (defScope s_longer_rows) := ⟨rfl, rfl, rfl, by decide +kernel, rfl, by decide +kernel, by decide +kernel⟩
theorem ok_longer_rows {f : Addr} {fd : FuncData} (F : Fun K "longer_rows" "longer_rows" s_longer_rows f fd) (m_len : mg "len" = none) (m_range : mg "range" = none) (F_is_within : Has P w K mg base "is_within" 1 ["sums", "limits", "start"] [] (prWithin.sp C)) (F_sums_with : Has P w K mg base "sums_with" 1 ["sums", "number"] [] (prSums.sp C)) :
    FnOk P w K mg base CX0 2 f fd ["rows", "limits", "most"] (prLonger.sp C) := by
  refine def_ok F sc_longer_rows (fun _ => rfl) (by decide) fun cdv A outer s H E hr => ?_
  have nd := sc_longer_rows.nd
  refine ⟨_, (pss_cons (ps_set (i := 3) nd rfl (.inl rfl) (pe_lst pa_nil))
  (pss_cons (ps_for PassesOwn.never rfl (pi_listK (K := K) rfl (pv 0)) (pg_tup rfl (pgs_cons (pg_name (i := 4) nd rfl (.inl rfl)) (pgs_cons (pg_name (i := 5) nd rfl (.inl rfl)) pgs_nil))) (pss_one (ps_for PassesOwn.never rfl (pi_range1 (by rfl) m_range (pa_cons (pe_op op_add (pe_op op_sub (pv 2) (pe_ix (ix_listK (K := K)) (pv 5) (pe_un un_neg pe_int) (fun _ _ => rfl))) pe_int) pa_nil)) (pg_name (i := 6) nd rfl (.inl rfl)) (pss_cons (ps_set (i := 7) nd rfl (.inl rfl) (pe_fn F_sums_with (hr.mono (by decide)) (by rfl) (pa_cons (pv 5) (pa_cons (pv 6) pa_nil))))
  (pss_one (ps_if (pt_val (pe_fn F_is_within (hr.mono (by decide)) (by rfl) (pa_cons (pv 7) (pa_cons (pv 1) (pa_cons (pe_callB (len_K (K := K)) (by rfl) m_len (by decide +kernel) (pa_cons (pv 5) pa_nil)) pa_nil))))) (pss_one (ps_expr (pe_bm PySem.F.plainAttrs_list PySem.F.slot_list_append PySem.F.type_list_append mt_append (pv 3) (pa_cons (pe_tup (pa_cons (pe_op (catT_K (K := K)) (pv 4) (pe_tup (pa_cons (pv 6) pa_nil))) (pa_cons (pv 7) pa_nil))) pa_nil)))) pss_nil))))))
  (pss_one (ps_ret (pv 3))))), ?_⟩
  intro y U σ Q S L hp q
  obtain ⟨rows, lims, most, k⟩ := y
  have hp : RowsOk lims most k rows := hp
  have L : Lo C U σ [some (.d (.list (rows.map rowD))), some (.d (nL lims)), some (iD most), none, none, none, none, none] := L
  have h2k : 2 ^ k ≤ 64 := pow2_le hp.k6
  have hm6 := hp.most6
  have hfew := hp.few
  have hlims := hp.lims
  refine q_asgN L S (evn_lst (ds := []) eva_nil (by decide)) fun pl σ1 U1 H1 g1 hpl ml1 L1 => ?_
  have one_le : ∀ p : Row, (longerOne lims most p).length ≤ 7 := fun p => by
    unfold longerOne
    rw [List.length_map]
    have := List.length_filter_le (fun k => within (sumsW p.2 k) lims p.2.length) (List.range (most + 1 - lastD p.2))
    rw [List.length_range] at this
    omega
  have all_le : ∀ i, ((rows.take i).flatMap (longerOne lims most)).length ≤ 7 * (rows.take i).length := fun i => by
    generalize rows.take i = l
    induction l with
    | nil => exact Nat.le_refl _
    | cons p l ih =>
      rw [List.flatMap_cons, List.length_append, List.length_cons]
      have := one_le p
      omega
  refine q_for rows (fun p => .d (rowD p)) (fun i => [some (.d (.list (rows.map rowD))), some (.d (nL lims)), some (iD most), some (.adr pl), none, none, none, none])
    (fun i U' H' => Gr [pl] U H U' H' ∧ ML U' H' pl (((rows.take i).flatMap (longerOne lims most)).map rowD)) L1 g1.uh (evi_listM rowD rows (ev_var rfl)) (.eq (.eq (.eq (.eq (.no (.no (.no (.no .nil)))))))) (fun _ _ g2 => ⟨g1.any.trans g2.any, ml1.step g2 (by simp)⟩) ?_ ?_
  · intro i p Ub U2 H2 U3 H3 ea ⟨g2, ml2⟩ _ sb g3
    have hmem : p ∈ rows := List.mem_of_getElem? ea
    have e1 := hp.len1 p hmem
    have e2 := hp.len2 p hmem
    have e3 := hp.last p hmem
    have hpos : 0 < 2 ^ k := Nat.two_pow_pos k
    refine ⟨_, _, evg_pair, fun σ3 L3 => ?_⟩
    have L3 : Lo C U3 σ3 [some (.d (.list (rows.map rowD))), some (.d (nL lims)), some (iD most), some (.adr pl), some (.d (nT p.1)), some (.d (nL p.2)), none, none] := L3
    have len0 : ((rows.take i).flatMap (longerOne lims most)).length ≤ 7 * 5000 := by
      have h1 := all_le i
      have h2 : (rows.take i).length ≤ rows.length := by rw [List.length_take]; omega
      omega
    refine s_for (List.range (most + 1 - lastD p.2)) (fun (j : Nat) => iD j) (fun j => [some (.d (.list (rows.map rowD))), some (.d (nL lims)), some (iD most), some (.adr pl), some (.d (nT p.1)), some (.d (nL p.2)), none, none])
      (fun j U' H' => Gr [pl] U H U' H' ∧ ML U' H' pl (((rows.take i).flatMap (longerOne lims most) ++ ((List.range j).filter fun k => within (sumsW p.2 k) lims p.2.length).map fun k => (p.1 ++ [k], sumsW p.2 k)).map rowD)) L3 g3.uh
      (evi_rngN (eva_cons ((ev_op (ev_op (ev_var rfl) (ev_op (ev_var rfl) (ev_un ev_int ru_neg) (rv_ixL (at_map_last (x := lastD p.2) (getD_at (by omega))))) (rv_I0 rfl)) ev_int (rv_I0 rfl)).to (congrArg iD ?_)) eva_nil) (by omega))
      (.eq (.eq (.eq (.eq (.eq (.eq (.no (.no .nil)))))))) (fun _ _ g4 => ⟨(g2.trans g3.any).trans g4.any, ?_⟩) ?_ ?_
    · omega
    · have := (ml2.step g3 (by simp)).step g4 (by simp)
      show ML _ _ pl (((rows.take i).flatMap (longerOne lims most) ++ []).map rowD)
      rw [List.append_nil]
      exact this
    · intro j b Ub' U4 H4 U5 H5 eb ⟨g4, ml4⟩ _ sb' g5
      obtain ⟨hj, rfl⟩ := rng_at eb
      refine ⟨_, _, evg_name, fun σ5 L5 => ?_⟩
      refine q_asg L5 g5.uh (c_sums p.2 b (eva_cons (ev_var rfl) (eva_cons (ev_var rfl) eva_nil)) (by omega)) fun σ6 U6 H6 g6 L6 => ?_
      have L6 : Lo C U6 σ6 [some (.d (.list (rows.map rowD))), some (.d (nL lims)), some (iD most), some (.adr pl), some (.d (nT p.1)), some (.d (nL p.2)), some (iD b), some (.d (nL (sumsW p.2 b)))] := L6
      have hw : (sumsW p.2 b).length ≤ lims.length := by rw [sumsW_len, e2, ← Nat.pow_succ']; exact hlims
      have stp : ∀ (X : List PyData), (List.range (b + 1)).filter (fun k => within (sumsW p.2 k) lims p.2.length) = (List.range b).filter (fun k => within (sumsW p.2 k) lims p.2.length) ++ [b].filter (fun k => within (sumsW p.2 k) lims p.2.length) := fun _ => by rw [List.range_succ, List.filter_append]
      refine s_when L6 g6.uh (evt_B (c_within (sumsW p.2 b) lims p.2.length (eva_cons (ev_var rfl) (eva_cons (ev_var rfl) (eva_cons (ev_call (eva_cons (ev_var rfl) eva_nil) rc_lenLM) eva_nil))) hw (by rw [sumsW_len]; omega) (by omega))) (fun hb U7 H7 g7 L7 => ?_) (fun hb U7 H7 g7 L7 => ?_)
      · refine s_app (c := rowD (p.1 ++ [b], sumsW p.2 b)) L7 g7.uh (ev_var rfl) ((ev_tup (ds := [nT (p.1 ++ [b]), nL (sumsW p.2 b)]) (eva_cons (ev_op (ev_var rfl) (ev_tup (ds := [nI b]) (eva_cons (ev_var rfl) eva_nil) (by simp)) ?_) (eva_cons (ev_var rfl) eva_nil)) (by simp))) (((ml4.step g5 (by simp)).step g6 (by simp)).step g7 (by simp)) ?_ fun U8 H8 g8 ml8 L8 => ?_
        · have h := rv_catT (C := C) (K := K) (ds := p.1.map nI) (es := [nI b]) (by rw [List.length_map, e1]; have := hp.k6; show k + 1 ≤ 100000; omega)
          have e : nT (p.1 ++ [b]) = .tuple (p.1.map nI ++ [nI b]) := by
            unfold nT
            rw [List.map_append]
            rfl
          rw [e]
          exact h
        · rw [List.length_map, List.length_append, List.length_map]
          have := List.length_filter_le (fun k => within (sumsW p.2 k) lims p.2.length) (List.range b)
          rw [List.length_range] at this
          omega
        · refine nx_of (Nxt.of sb' ((g6.any.trans g7.any).trans g8) (L8.sub (.eq (.eq (.eq (.eq (.eq (.eq (.no (.no .nil))))))))) (And.intro (g4.trans ((g5.any.trans g6.any).trans (g7.any.trans g8))) ?_))
          rw [stp [], List.filter_cons, if_pos hb, List.filter_nil]
          simp only [List.map_append, List.append_assoc] at ml8 ⊢
          exact ml8
      · refine nx_of (Nxt.of sb' (g6.trans g7) (L7.sub (.eq (.eq (.eq (.eq (.eq (.eq (.no (.no .nil))))))))) (And.intro (g4.trans ((g5.any.trans g6.any).trans g7.any)) ?_))
        rw [stp [], List.filter_cons, if_neg (by rw [hb]; decide), List.filter_nil, List.append_nil]
        exact ((ml4.step g5 (by simp)).step g6 (by simp)).step g7 (by simp)
    · intro U4 H4 σ4 L4 s1 s2 ⟨g4, ml4⟩
      rw [List.length_range] at ml4
      refine nx_of ⟨U4, sb.trans s1, s2, L4.sub (.eq (.eq (.eq (.eq (.no (.no (.no (.no .nil)))))))), g4, ?_⟩
      rw [take_succ_at ea, List.flatMap_append, List.flatMap_singleton]
      exact ml4
  · intro U2 H2 σ2 L2 s1 s2 ⟨g2, ml2⟩
    rw [List.take_length] at ml2
    obtain ⟨U3, g3, s3, L3, _⟩ := ml2.tell 3 S g2 hpl L2 rfl
    exact s_ret L3 g3.uh (ev_var rfl) fun v U4 H4 g4 r4 => q v _ U4 H4 ((g3.drop (by simpa using hpl)).trans g4) r4 rfl
end
end Kx
end
section
set_option Elab.async false
set_option linter.all false
set_option maxRecDepth 100000
set_option maxHeartbeats 4000000
namespace Kx
open PySem PySem.Spec L2
open PyProof.Rows (envOfC)
/-- a web within bounds -/
structure WebOk (n m : Nat) (ts : List (Nat × Nat)) : Prop where
  n1 : 1 ≤ n
  n4 : n ≤ 4
  m1 : 1 ≤ m
  m4 : m ≤ 4
  few : ts.length ≤ 12
  th : ∀ t ∈ ts, t.1 < n
  cl : ∀ t ∈ ts, t.2 < m
abbrev prShown : Prm (Nat × Nat × List (Nat × Nat)) := .fn (fun x => [.web x.1 x.2.1 x.2.2]) (fun x => WebOk x.1 x.2.1 x.2.2) fun x => .d (.tuple ((shownRows x.1 x.2.1 x.2.2).map nT))
section
variable {C : Addr} {ρ : Ro} {t : TA} {E : XK} {n m : Nat} {ts : List (Nat × Nat)}
theorem c_shown (h : EvA C t ρ [.web n m ts]) (h1 : WebOk n m ts) : Ev C (tCall (prShown.sp C) [] E t) ρ (.d (.tuple ((shownRows n m ts).map nT))) := ev_fn (args := prShown.args) (pre := prShown.pre) (n, m, ts) h h1
end
section
variable {P : Program} {w : World} {K : PySem.W.Frag} {mg : Str → Option Value} {base : Heap} {C : Addr}
abbrev s_shown_rows : Stmt := topS 28
abbrev N_shown_rows : List Str := ["web", "limits", "rows", "_", "numbers", "sums"]
theorem sc_shown_rows : FnScope N_shown_rows ["web"] (defScope s_shown_rows) := ⟨rfl, rfl, rfl, by decide +kernel, rfl, by decide +kernel, by decide +kernel⟩
theorem ok_shown_rows {f : Addr} {fd : FuncData} (F : Fun K "shown_rows" "shown_rows" s_shown_rows f fd) (T : WebC K C) (m_range : mg "range" = none) (m_tuple : mg "tuple" = none) (F_held_counts : Has P w K mg base "held_counts" 4 ["web"] [] (prHeld.sp C)) (F_longer_rows : Has P w K mg base "longer_rows" 2 ["rows", "limits", "most"] [] (prLonger.sp C)) :
    FnOk P w K mg base CX0 5 f fd ["web"] (prShown.sp C) := by
  refine def_ok F sc_shown_rows (fun _ => rfl) (by decide) fun cdv A outer s H E hr => ?_
  have nd := sc_shown_rows.nd
  refine ⟨_, (pss_cons (ps_set (i := 1) nd rfl (.inl rfl) (pe_fn F_held_counts (hr.mono (by decide)) (by rfl) (pa_cons (pv 0) pa_nil)))
  (pss_cons (ps_set (i := 2) nd rfl (.inl rfl) (pe_lst (pa_cons (pe_tup (pa_cons (pe_tup pa_nil) (pa_cons (pe_lst (pa_cons pe_int pa_nil)) pa_nil))) pa_nil)))
  (pss_cons (ps_for PassesOwn.never rfl (pi_range1 (by rfl) m_range (pa_cons (fld_K (K := K) rfl (pv 0)) pa_nil)) (pg_name (i := 3) nd rfl (.inl rfl)) (pss_one (ps_set (i := 2) nd rfl (.inl rfl) (pe_fn F_longer_rows (hr.mono (by decide)) (by rfl) (pa_cons (pv 2) (pa_cons (pv 1) (pa_cons (pe_op op_sub (fld_K (K := K) rfl (pv 0)) pe_int) pa_nil)))))))
  (pss_one (ps_ret (pe_callTy (tuple_K (K := K)) (by rfl) m_tuple (by decide +kernel) (pa_cons (pe_lc (own := [("numbers", 4), ("sums", 5)]) (g := gTup K 2 (gCons (gName 4) (gCons (gName 5) gNil))) rfl nd (pi_listK (K := K) rfl (pv 2)) (blkOk_by (own := [("numbers", 4), ("sums", 5)]) (N := N_shown_rows) (sc := defScope s_shown_rows) (by decide +kernel)) (fun _ _ _ _ _ => (pg_tup rfl (pgs_cons (pg_name (i := 4) nd rfl (.inl rfl)) (pgs_cons (pg_name (i := 5) nd rfl (.inl rfl)) pgs_nil)))) (fun _ _ _ _ _ => pts_one (pt_cmpR op_eq (pe_ix (ix_listK (K := K)) (pv 5) (pe_un un_neg pe_int) (fun _ _ => rfl)) (pe_op op_sub (fld_K (K := K) rfl (pv 0)) pe_int) (nomark _))) (fun _ _ _ _ _ => (pv 4))) pa_nil))))))), ?_⟩
  intro y U σ Q S L hp q
  obtain ⟨n, m, ts⟩ := y
  have hp : WebOk n m ts := hp
  have L : Lo C U σ [some (.web n m ts), none, none, none, none, none] := L
  have hn := hp.n4
  have hm := hp.m4
  have hn1 := hp.n1
  have hlen : (heldC n m ts).length = 2 ^ m := heldC_len n m ts
  have hi1 : ∀ (ρ : Ro) (te : TE), Ev C te ρ (iD ((n : Int) - 1)) → Ev C te ρ (iD ((n - 1 : Nat) : Int)) := fun ρ te h => h.to (congrArg iD (by omega))
  refine q_asg L S (c_held (eva_cons (ev_var rfl) eva_nil) (by omega) (by omega) (by have := hp.few; omega) hp.th) fun σ1 U1 H1 g1 L1 => ?_
  refine q_asg L1 g1.uh (evn_lst (ds := [rowD ([], [0])]) (eva_cons (ev_tup (ds := [nT [], nL [0]]) (eva_cons (ev_tup (ds := []) eva_nil (by simp)) (eva_cons (evn_lst (ds := [nI 0]) (eva_cons ev_int eva_nil) (by simp)).ev eva_nil)) (by simp)) eva_nil) (by simp)).ev fun σ2 U2 H2 g2 L2 => ?_
  refine q_for (List.range m) (fun (j : Nat) => iD j) (fun i => [some (.web n m ts), some (.d (nL (heldC n m ts))), some (.d (.list ((rowsAt (heldC n m ts) (n - 1) i).map rowD))), none, none, none]) (fun i U' H' => Gr [] U H U' H') L2 g2.uh
    (evi_rngN (eva_cons (ev_clubs (ev_var rfl) T.cl T.n2) eva_nil) (by omega)) (.eq (.eq (.eq (.no (.no (.no .nil)))))) (fun _ _ g3 => (g1.trans g2).trans g3) ?_ ?_
  · intro i a Ub U3 H3 U4 H4 ea g3 _ sb g4
    obtain ⟨hi, rfl⟩ := rng_at ea
    refine ⟨_, _, evg_name, fun σ4 L4 => ?_⟩
    refine s_asg L4 g4.uh (c_longer (rowsAt (heldC n m ts) (n - 1) a) (heldC n m ts) (n - 1) a (eva_cons (ev_var rfl) (eva_cons (ev_var rfl) (eva_cons (hi1 _ _ (ev_op (ev_things (ev_var rfl) T.cl T.n1) ev_int (rv_I0 rfl))) eva_nil))) (rowsAt_ok hm (by omega) hlen hi)) fun σ5 U5 H5 g5 L5 => ?_
    exact nx_of (Nxt.of sb g5 (L5.sub (.eq (.eq (.eq (.no (.no (.no .nil))))))) ((g3.trans g4).trans g5))
  · intro U3 H3 σ3 L3 s1 s2 g3
    rw [List.length_range] at L3
    have hfew : (rowsAt (heldC n m ts) (n - 1) m).length ≤ 5000 := by
      have h1 := rowsAt_few (heldC n m ts) (most := n - 1) (by omega) m
      have h2 : 7 ^ m ≤ 7 ^ 4 := Nat.pow_le_pow_right (by decide) hm
      omega
    refine s_ret L3 s2 (ev_tuple (eva_cons (evn_lcIf (js := [4, 5]) (rowsAt (heldC n m ts) (n - 1) m) (fun p => .d (rowD p)) (fun p => decide (lastD p.2 = n - 1)) (fun p => nT p.1) (evi_listM rowD _ (ev_var rfl)) (by omega) (by simp)
      (fun p hp' => ⟨_, evg_pair, (evt_test (ev_op (ev_op (ev_var rfl) (ev_un ev_int ru_neg) (rv_ixL (at_map_last (x := lastD p.2) (getD_at ?_)))) (hi1 _ _ (ev_op (ev_things (ev_var rfl) T.cl T.n1) ev_int (rv_I0 rfl))) (rv_eqI (decide_eq_decide.mpr (by omega))))), fun hf => (ev_var rfl)⟩)).ev eva_nil) (.inl rfl)) fun v U4 H4 g4 r4 => q v _ U4 H4 (g3.trans g4) r4 ?_
    · have h1 := (rowsAt_mem (heldC n m ts) (n - 1) m p hp').2.1
      have hpos : 0 < 2 ^ m := Nat.two_pow_pos m
      omega
    · show DV.d (.tuple _) = DV.d (.tuple ((shownRows n m ts).map nT))
      unfold shownRows
      rw [List.map_map]
      rfl
end
end Kx
end
section
set_option Elab.async false
set_option linter.all false
set_option maxRecDepth 100000
set_option maxHeartbeats 4000000
namespace Kx
open PySem PySem.Spec L2
open PyProof.Rows (envOfC)
abbrev prHanded : Prm (List Int × Nat × Nat) := .fn (fun x => [.d (intsD x.1), iD x.2.1, iD x.2.2]) (fun x => x.2.1 < x.1.length ∧ x.2.2 < x.1.length) fun x => .d (intsD (handI x.1 x.2.1 x.2.2))
abbrev prTable : Prm (List (List Int)) := .fn (fun x => [.d (.tuple (x.map intsD))]) (fun x => x.length ≤ 90000) fun x => .tab x
abbrev prBusy : Prm (List (List Int) × List Int × List Nat) := .fn (fun x => [.tab x.1, .d (intsD x.2.1), .d (nT x.2.2)]) (fun x => (∀ c ∈ x.2.2, c < x.2.1.length) ∧ x.2.2.length ≤ 1000) fun x => .d (.tuple (sortD ((busyF x.1 x.2.1 x.2.2).map nI)))
abbrev prNums : Prm (List Nat) := .fn (fun x => [.d (nL x)]) (fun x => x ≠ [] ∧ x.length ≤ 10000 ∧ ∀ c ∈ x, c ≤ 1000) fun x => .d (nT (numsF x))
section
variable {C : Addr} {ρ : Ro} {t : TA} {E : XK}
theorem c_whole1 (z : Int) (lo : Option Int) (h : EvA C t ρ [iD z, oD lo]) : Ev C (tCall (prWhole.sp C) [.non] E t) ρ (bD (inb z lo none)) := ev_fnD (args := prWhole.args) (dd := [nD]) (z, lo, none) h rfl (fun _ => .cons .non .nil) trivial
theorem c_seq (b : Bool) (ds : List PyData) (h : EvA C t ρ [.d (seqLT b ds)]) : Ev C (tCall (prSeq.sp C) [] E t) ρ (bD true) := ev_fn (args := prSeq.args) (b, ds) h trivial
theorem c_couple (b : Bool) (ds : List PyData) (h : EvA C t ρ [.d (seqLT b ds)]) : Ev C (tCall (prCouple.sp C) [] E t) ρ (bD (decide (ds.length = 2))) := ev_fn (args := prCouple.args) (b, ds) h trivial
theorem c_handed (r : List Int) (g k : Nat) (h : EvA C t ρ [.d (intsD r), iD g, iD k]) (h1 : g < r.length) (h2 : k < r.length) : Ev C (tCall (prHanded.sp C) [] E t) ρ (.d (intsD (handI r g k))) := ev_fn (args := prHanded.args) (pre := prHanded.pre) (r, g, k) h ⟨h1, h2⟩
theorem c_table (rows : List (List Int)) (h : EvA C t ρ [.d (.tuple (rows.map intsD))]) (h1 : rows.length ≤ 90000) : Ev C (tCall (prTable.sp C) [] E t) ρ (.tab rows) := ev_fn (args := prTable.args) (pre := prTable.pre) rows h h1
theorem c_busy (rows : List (List Int)) (row : List Int) (o : List Nat) (h : EvA C t ρ [.tab rows, .d (intsD row), .d (nT o)]) (h1 : ∀ c ∈ o, c < row.length) (h2 : o.length ≤ 1000) : Ev C (tCall (prBusy.sp C) [] E t) ρ (.d (.tuple (sortD ((busyF rows row o).map nI)))) := ev_fn (args := prBusy.args) (pre := prBusy.pre) (rows, row, o) h ⟨h1, h2⟩
theorem c_nums (l : List Nat) (h : EvA C t ρ [.d (nL l)]) (h0 : l ≠ []) (h1 : l.length ≤ 10000) (h2 : ∀ c ∈ l, c ≤ 1000) : Ev C (tCall (prNums.sp C) [] E t) ρ (.d (nT (numsF l))) := ev_fn (args := prNums.args) (pre := prNums.pre) l h ⟨h0, h1, h2⟩
theorem so_nats (l : List Nat) : SortOk (l.map nI) := by
  have h := so_ints (asI l)
  unfold asI at h
  rw [List.map_map] at h
  exact h
end
section
variable {P : Program} {w : World} {K : PySem.W.Frag} {mg : Str → Option Value} {base : Heap} {C : Addr}
abbrev s_is_whole : Stmt := topS 12
abbrev N_is_whole : List Str := ["thing", "low", "high"]
theorem sc_is_whole : FnScope N_is_whole ["thing", "low", "high"] (defScope s_is_whole) := ⟨rfl, rfl, rfl, by decide +kernel, rfl, by decide +kernel, by decide +kernel⟩
theorem ok_is_whole {f : Addr} {fd : FuncData} (F : FunD K "is_whole" "is_whole" (defPars s_is_whole) (defBody s_is_whole) (defScope s_is_whole) [.non, .non] [] f fd) (m_bool : mg "bool" = none) (m_int : mg "int" = none) (m_isinstance : mg "isinstance" = none) :
    FnOk P w K mg base CX0 1 f fd ["thing", "low", "high"] (prWhole.sp C) := by
  refine def_okD F sc_is_whole (fun _ => rfl) (by decide) fun cdv A outer s H E hr => ?_
  have nd := sc_is_whole.nd
  refine ⟨_, (pss_cons (ps_if (PW.pt (pw_or (pt_not (pt_val (pe_callB (isi_K (K := K)) (by rfl) m_isinstance (by decide +kernel) (pa_cons (pv 0) (pa_cons (pe_bltn (v := .ty "int") (u := .type "int") (by rfl) m_int (by decide +kernel) rfl) pa_nil))))) (pw_or1 (pt_val (pe_callB (isi_K (K := K)) (by rfl) m_isinstance (by decide +kernel) (pa_cons (pv 0) (pa_cons (pe_bltn (v := .ty "bool") (u := .type "bool") (by rfl) m_bool (by decide +kernel) rfl) pa_nil))))))) (pss_one (ps_ret pe_bl)) pss_nil)
  (pss_cons (ps_if (PW.pt (pw_and (pt_cmp (pc_notN (pv 1)) rfl) (pw_and1 (pt_cmpR op_lt (pv 0) (pv 1) (nomark _))))) (pss_one (ps_ret pe_bl)) pss_nil)
  (pss_one (ps_ret (pe_or (pe_cmp (pc_isN (pv 2)) rfl) (pe_one (pe_cmpR op_le (pv 0) (pv 2) (nomark _)))))))), ?_⟩
  intro y U σ Q S L hp q
  obtain ⟨z, lo, hi⟩ := y
  have L : Lo C U σ [some (iD z), some (oD lo), some (oD hi)] := L
  refine q_skip L S ((evt_or (evt_not (evt_B (ev_isi (t := "int") (b := true) (ev_var rfl) rfl (by decide +kernel)))) fun _ => evt_B (ev_isi (t := "int") (b := false) (ev_var rfl) rfl (by decide +kernel))).to rfl) fun U1 H1 g1 L1 => ?_
  refine q_when (b := !loB z lo) L1 g1.uh ?_ (fun hb U2 H2 g2 L2 => ?_) (fun hb U2 H2 g2 L2 => ?_)
  · cases lo with
    | none => exact (evt_and (p := false) (q := true) (evt_B (ev_notN (ev_var rfl) (fun _ => rfl) fun h => absurd rfl h)) (fun h => nomatch h)).to rfl
    | some l => exact (evt_and (p := true) (q := !decide (l ≤ z)) (evt_B (ev_notN (d := iD l) (ev_var rfl) (fun h => nomatch h) fun _ => rfl)) (fun _ => evt_test (ev_op (ev_var rfl) (ev_var rfl) (rv_B0 (congrArg V.bl (by rw [← decide_not]; exact decide_eq_decide.mpr (by omega))))))).to (by simp [loB])
  · refine s_ret L2 g2.uh ev_bl fun v U3 H3 g3 r3 => q v _ U3 H3 ((g1.trans g2).trans g3) r3 ?_
    show bD false = bD (loB z lo && hiB z hi)
    have e : loB z lo = false := by simpa using hb
    rw [e]
    rfl
  · have e : loB z lo = true := by simpa using hb
    have e2 : inb z lo hi = hiB z hi := by
      show (loB z lo && hiB z hi) = hiB z hi
      rw [e]
      rfl
    cases hi with
    | none => exact s_ret L2 g2.uh (ev_orV (p := true) (d := bD true) (ev_isN (ev_var rfl) (fun _ => rfl) fun h => absurd rfl h) (fun h => nomatch h) fun _ => rfl) fun v U3 H3 g3 r3 => q v _ U3 H3 ((g1.trans g2).trans g3) r3 (congrArg bD e2.symm)
    | some l => exact s_ret L2 g2.uh (ev_orV (p := false) (d := bD (decide (z ≤ l))) (ev_isN (d := iD l) (ev_var rfl) (fun h => nomatch h) fun _ => rfl) (fun _ => ev_op (ev_var rfl) (ev_var rfl) (rv_B0 rfl)) fun h => nomatch h) fun v U3 H3 g3 r3 => q v _ U3 H3 ((g1.trans g2).trans g3) r3 (congrArg bD e2.symm)
abbrev s_is_sequence : Stmt := topS 13
abbrev N_is_sequence : List Str := ["thing"]
theorem sc_is_sequence : FnScope N_is_sequence ["thing"] (defScope s_is_sequence) := ⟨rfl, rfl, rfl, by decide +kernel, rfl, by decide +kernel, by decide +kernel⟩
theorem ok_is_sequence {f : Addr} {fd : FuncData} (F : Fun K "is_sequence" "is_sequence" s_is_sequence f fd) (m_isinstance : mg "isinstance" = none) (m_list : mg "list" = none) (m_tuple : mg "tuple" = none) :
    FnOk P w K mg base CX0 1 f fd ["thing"] (prSeq.sp C) := by
  refine def_ok F sc_is_sequence (fun _ => rfl) (by decide) fun cdv A outer s H E hr => ?_
  have nd := sc_is_sequence.nd
  refine ⟨_, (pss_one (ps_ret (pe_callB (isiT_K (K := K)) (by rfl) m_isinstance (by decide +kernel) (pa_cons (pv 0) (pa_cons (pe_tup (pa_cons (pe_bltn (v := .ty "list") (u := .type "list") (by rfl) m_list (by decide +kernel) rfl) (pa_cons (pe_bltn (v := .ty "tuple") (u := .type "tuple") (by rfl) m_tuple (by decide +kernel) rfl) pa_nil))) pa_nil))))), ?_⟩
  intro y U σ Q S L hp q
  obtain ⟨b, ds⟩ := y
  exact s_ret L S (ev_isiSeq (b := b) (ds := ds) (ev_var rfl)) fun v U1 H1 g1 r1 => q v _ U1 H1 g1 r1 rfl
abbrev s_is_couple : Stmt := topS 14
abbrev N_is_couple : List Str := ["thing"]
theorem sc_is_couple : FnScope N_is_couple ["thing"] (defScope s_is_couple) := ⟨rfl, rfl, rfl, by decide +kernel, rfl, by decide +kernel, by decide +kernel⟩
theorem ok_is_couple {f : Addr} {fd : FuncData} (F : Fun K "is_couple" "is_couple" s_is_couple f fd) (m_len : mg "len" = none) (F_is_sequence : Has P w K mg base "is_sequence" 1 ["thing"] [] (prSeq.sp C)) :
    FnOk P w K mg base CX0 2 f fd ["thing"] (prCouple.sp C) := by
  refine def_ok F sc_is_couple (fun _ => rfl) (by decide) fun cdv A outer s H E hr => ?_
  have nd := sc_is_couple.nd
  refine ⟨_, (pss_one (ps_ret (pe_and (pe_fn F_is_sequence (hr.mono (by decide)) (by rfl) (pa_cons (pv 0) pa_nil)) (pe_one (pe_cmpR op_eq (pe_callB (len_K (K := K)) (by rfl) m_len (by decide +kernel) (pa_cons (pv 0) pa_nil)) pe_int (nomark _)))))), ?_⟩
  intro y U σ Q S L hp q
  obtain ⟨b, ds⟩ := y
  refine s_ret L S (ev_andV (p := true) (d := bD (decide (ds.length = 2))) (c_seq b ds (eva_cons (ev_var rfl) eva_nil)) (fun _ => ev_op (ev_call (eva_cons (ev_var rfl) eva_nil) (rc_lenS (b := b) (ds := ds))) ev_int (rv_eqI (decide_eq_decide.mpr (by omega)))) (fun h => nomatch h)) fun v U1 H1 g1 r1 => q v _ U1 H1 g1 r1 rfl
abbrev s_row_handed : Stmt := topS 30
abbrev N_row_handed : List Str := ["row", "giver", "taker", "handed"]
theorem sc_row_handed : FnScope N_row_handed ["row", "giver", "taker"] (defScope s_row_handed) := ⟨rfl, rfl, rfl, by decide +kernel, rfl, by decide +kernel, by decide +kernel⟩
theorem ok_row_handed {f : Addr} {fd : FuncData} (F : Fun K "row_handed" "row_handed" s_row_handed f fd) (m_list : mg "list" = none) (m_tuple : mg "tuple" = none) :
    FnOk P w K mg base CX0 1 f fd ["row", "giver", "taker"] (prHanded.sp C) := by
  refine def_ok F sc_row_handed (fun _ => rfl) (by decide) fun cdv A outer s H E hr => ?_
  have nd := sc_row_handed.nd
  refine ⟨_, (pss_cons (ps_set (i := 3) nd rfl (.inl rfl) (pe_callTy (list_K (K := K)) (by rfl) m_list (by decide +kernel) (pa_cons (pv 0) pa_nil)))
  (pss_cons (ps_augL (pv 3) (pv 1) pe_int ip_sub)
  (pss_cons (ps_augL (pv 3) (pv 2) pe_int ip_add)
  (pss_one (ps_ret (pe_callTy (tuple_K (K := K)) (by rfl) m_tuple (by decide +kernel) (pa_cons (pv 3) pa_nil))))))), ?_⟩
  intro y U σ Q S L hp q
  obtain ⟨r, g, k⟩ := y
  obtain ⟨h1, h2⟩ : g < r.length ∧ k < r.length := hp
  have L : Lo C U σ [some (.d (intsD r)), some (iD g), some (iD k), none] := L
  refine q_asgN L S (evn_list (eva_cons (ev_var rfl) eva_nil) (.inr rfl)) fun p σ1 U1 H1 g1 hp1 m1 L1 => ?_
  have at1 : (r.map PyData.int)[g]? = some (.int (r.getD g 0)) := by rw [List.getElem?_map, getD_at (d := 0) h1]; rfl
  refine q_augL (j := g) L1 g1.uh (ev_var rfl) (ev_var rfl) ev_int m1 rfl at1 fun U2 H2 g2 m2 L2 => ?_
  have e2 : (r.map PyData.int).set g (.int (r.getD g 0 - 1)) = (r.set g (r.getD g 0 - 1)).map PyData.int := by rw [List.map_set]
  rw [e2] at m2
  have at2 : ((r.set g (r.getD g 0 - 1)).map PyData.int)[k]? = some (.int ((r.set g (r.getD g 0 - 1)).getD k 0)) := by rw [List.getElem?_map, getD_at (d := 0) (by rw [List.length_set]; exact h2)]; rfl
  refine q_augL (j := k) L2 g2.uh (ev_var rfl) (ev_var rfl) ev_int m2 rfl at2 fun U3 H3 g3 m3 L3 => ?_
  have e3 : ((r.set g (r.getD g 0 - 1)).map PyData.int).set k (.int ((r.set g (r.getD g 0 - 1)).getD k 0 + 1)) = (handI r g k).map PyData.int := by unfold handI; exact List.map_set.symm
  rw [e3] at m3
  obtain ⟨U4, g4, e4, L4, _⟩ := ML.tell 3 S ((g1.any.trans g2).trans g3) hp1 m3 L3 rfl
  refine s_ret L4 g4.uh (ev_tuple (eva_cons (ev_var rfl) eva_nil) (.inl rfl)) fun v U5 H5 g5 r5 => q v _ U5 H5 ((g4.drop (by simpa using hp1)).trans g5) r5 rfl
abbrev s_table_of : Stmt := topS 31
abbrev N_table_of : List Str := ["rows", "row"]
theorem sc_table_of : FnScope N_table_of ["rows"] (defScope s_table_of) := ⟨rfl, rfl, rfl, by decide +kernel, rfl, by decide +kernel, by decide +kernel⟩
theorem ok_table_of {f : Addr} {fd : FuncData} (F : Fun K "table_of" "table_of" s_table_of f fd) :
    FnOk P w K mg base CX0 1 f fd ["rows"] (prTable.sp C) := by
  refine def_ok F sc_table_of (fun _ => rfl) (by decide) fun cdv A outer s H E hr => ?_
  have nd := sc_table_of.nd
  refine ⟨_, (pss_one (ps_ret (pe_dcT (own := [("row", 1)]) (g := gName 1) (hu1 hr) rfl nd (pi_tupK (K := K) rfl (pv 0)) (blkOk_by (own := [("row", 1)]) (N := N_table_of) (sc := defScope s_table_of) (by decide +kernel)) (fun _ _ _ _ _ => (pg_name (i := 1) nd rfl (.inl rfl))) (fun _ _ _ _ _ => (pv 1)) (fun _ _ _ _ _ => pe_bl)))), ?_⟩
  intro y U σ Q S L hp q
  have hp : y.length ≤ 90000 := hp
  have L : Lo C U σ [some (.d (.tuple (y.map intsD))), none] := L
  exact s_ret L S (ev_dcT (evi_tupM intsD y (ev_var rfl)) hp (by show 1 < 2; decide)) fun v U1 H1 g1 r1 => q v _ U1 H1 g1 r1 rfl
end
end Kx
end
section
set_option Elab.async false
set_option linter.all false
set_option maxRecDepth 100000
set_option maxHeartbeats 4000000
namespace Kx
open PySem PySem.Spec L2
open PyProof.Rows (envOfC)
/-- an order of the clubs -/
def IsOrd (m : Nat) (o : List Nat) : Prop := o.Perm (List.range m)
abbrev WebA := Nat × Nat × List (Nat × Nat)
abbrev webD (x : WebA) : DV := .web x.1 x.2.1 x.2.2
abbrev prOrder : Prm (WebA × Bool × List Nat) := .fn (fun x => [webD x.1, .d (seqLT x.2.1 (x.2.2.map nI))]) (fun x => IsOrd x.1.2.1 x.2.2 ∧ x.1.2.1 ≤ 100) fun x => .d (nT x.2.2)
abbrev prInward : Prm (WebA × Bool × List Nat) := .fn (fun x => [webD x.1, .d (seqLT x.2.1 (x.2.2.map nI))]) (fun x => IsOrd x.1.2.1 x.2.2 ∧ WebOk x.1.1 x.1.2.1 x.1.2.2 ∧ shownRows x.1.1 x.1.2.1 x.1.2.2 ≠ []) fun x => .d (nT (inwardN x.1.1 x.1.2.1 x.1.2.2 x.2.2))
abbrev prInwardOf : Prm WebA := .fn (fun x => [webD x]) (fun x => WebOk x.1 x.2.1 x.2.2 ∧ shownRows x.1 x.2.1 x.2.2 ≠ []) fun x => .d (nT (inwardN x.1 x.2.1 x.2.2 (List.range x.2.1)))
section
variable {C : Addr} {ρ : Ro} {t : TA} {E : XK} {n m : Nat} {ts : List (Nat × Nat)}
theorem c_order (b : Bool) (o : List Nat) (h : EvA C t ρ [.web n m ts, .d (seqLT b (o.map nI))]) (h1 : IsOrd m o) (h2 : m ≤ 100) : Ev C (tCall (prOrder.sp C) [] E t) ρ (.d (nT o)) := ev_fn (args := prOrder.args) (pre := prOrder.pre) ((n, m, ts), b, o) h ⟨h1, h2⟩
theorem c_inward (b : Bool) (o : List Nat) (h : EvA C t ρ [.web n m ts, .d (seqLT b (o.map nI))]) (h1 : IsOrd m o) (h2 : WebOk n m ts) (h3 : shownRows n m ts ≠ []) : Ev C (tCall (prInward.sp C) [] E t) ρ (.d (nT (inwardN n m ts o))) := ev_fn (args := prInward.args) (pre := prInward.pre) ((n, m, ts), b, o) h ⟨h1, h2, h3⟩
theorem c_inwardOf (h : EvA C t ρ [.web n m ts]) (h2 : WebOk n m ts) (h3 : shownRows n m ts ≠ []) : Ev C (tCall (prInwardOf.sp C) [] E t) ρ (.d (nT (inwardN n m ts (List.range m)))) := ev_fn (args := prInwardOf.args) (pre := prInwardOf.pre) (n, m, ts) h ⟨h2, h3⟩
theorem IsOrd.len {o : List Nat} (h : IsOrd m o) : o.length = m := by have := h.length_eq; rwa [List.length_range] at this
theorem IsOrd.lt {o : List Nat} (h : IsOrd m o) : ∀ c ∈ o, c < m := fun c hc => List.mem_range.mp (h.mem_iff.mp hc)
end
section
variable {P : Program} {w : World} {K : PySem.W.Frag} {mg : Str → Option Value} {base : Heap} {C : Addr}
abbrev s_busy_among : Stmt := topS 32
abbrev N_busy_among : List Str := ["known", "row", "order", "found", "place", "club", "ahead"]
theorem sc_busy_among : FnScope N_busy_among ["known", "row", "order"] (defScope s_busy_among) := ⟨rfl, rfl, rfl, by decide +kernel, rfl, by decide +kernel, by decide +kernel⟩
theorem ok_busy_among {f : Addr} {fd : FuncData} (F : Fun K "busy_among" "busy_among" s_busy_among f fd) (m_enumerate : mg "enumerate" = none) (m_sorted : mg "sorted" = none) (m_tuple : mg "tuple" = none) (F_row_handed : Has P w K mg base "row_handed" 1 ["row", "giver", "taker"] [] (prHanded.sp C)) :
    FnOk P w K mg base CX0 2 f fd ["known", "row", "order"] (prBusy.sp C) := by
  refine def_ok F sc_busy_among (fun _ => rfl) (by decide) fun cdv A outer s H E hr => ?_
  have nd := sc_busy_among.nd
  refine ⟨_, (pss_cons (ps_set (i := 3) nd rfl (.inl rfl) (pe_lst pa_nil))
  (pss_cons (ps_for PassesOwn.never rfl (pi_enumT (K := K) (by rfl) m_enumerate (pa_cons (pv 2) pa_nil)) (pg_tup rfl (pgs_cons (pg_name (i := 4) nd rfl (.inl rfl)) (pgs_cons (pg_name (i := 5) nd rfl (.inl rfl)) pgs_nil))) (pss_one (ps_for PassesOwn.never rfl (pi_tupK (K := K) rfl (pe_slice (slT_K (K := K)) (pv 2) po_none (po_some (pv 4)))) (pg_name (i := 6) nd rfl (.inl rfl)) (pss_one (ps_if (pt_cmp (pc_din (hu1 hr) (pe_fn F_row_handed (hr.mono (by decide)) (by rfl) (pa_cons (pv 1) (pa_cons (pv 5) (pa_cons (pv 6) pa_nil)))) (pv 0)) rfl) (pss_cons (ps_expr (pe_bm PySem.F.plainAttrs_list PySem.F.slot_list_append PySem.F.type_list_append mt_append (pv 3) (pa_cons (pv 5) pa_nil)))
  (pss_one ps_break)) pss_nil)))))
  (pss_one (ps_ret (pe_callTy (tuple_K (K := K)) (by rfl) m_tuple (by decide +kernel) (pa_cons (pe_callB (call_sortX (K := K) (hu65 hr)) (by rfl) m_sorted (by decide +kernel) (pa_cons (pv 3) pa_nil)) pa_nil)))))), ?_⟩
  intro y U σ Q S L hp q
  obtain ⟨rows, row, o⟩ := y
  obtain ⟨h1, h2⟩ : (∀ c ∈ o, c < row.length) ∧ o.length ≤ 1000 := hp
  have L : Lo C U σ [some (.tab rows), some (.d (intsD row)), some (.d (nT o)), none, none, none, none] := L
  let fo : Nat → List PyData := fun i => ((List.range i).filter (busyAt rows row o)).map fun i => nI (o.getD i 0)
  have foS : ∀ i, fo (i + 1) = if busyAt rows row o i = true then fo i ++ [nI (o.getD i 0)] else fo i := fun i => by
    show ((List.range (i + 1)).filter _).map _ = _
    rw [List.range_succ, List.filter_append, List.map_append, List.filter_cons]
    split
    · rfl
    · exact List.append_nil _
  have foL : ∀ i, (fo i).length ≤ i := fun i => by
    show (((List.range i).filter _).map _).length ≤ i
    rw [List.length_map]
    have := List.length_filter_le (busyAt rows row o) (List.range i)
    rwa [List.length_range] at this
  refine q_asgN L S (evn_lst (ds := []) eva_nil (by simp)) fun p σ1 U1 H1 g1 hp1 m1 L1 => ?_
  refine q_for (List.range o.length) (fun i => .d (.tuple [nI i, nI (o.getD i 0)])) (fun i => [some (.tab rows), some (.d (intsD row)), some (.d (nT o)), some (.adr p), none, none, none]) (fun i U' H' => Gr [p] U H U' H' ∧ ML U' H' p (fo i)) L1 g1.uh
    (evi_enumN (eva_cons (ev_var rfl) eva_nil)) (.eq (.eq (.eq (.eq (.no (.no (.no .nil))))))) (fun _ _ g => ⟨(g1.trans g).any, m1.step g (by simp)⟩) ?_ ?_
  · intro i a Ub U2 H2 U3 H3 ea ⟨g2, m2⟩ _ sb g3
    obtain ⟨hi, rfl⟩ := rng_at ea
    have hc : o.getD a 0 ∈ o := List.mem_of_getElem? (getD_at hi)
    refine ⟨_, _, evg_pair, fun σ3 L3 => ?_⟩
    refine s_for (o.take a) (fun b => .d (nI b)) (fun j => [some (.tab rows), some (.d (intsD row)), some (.d (nT o)), some (.adr p), some (iD a), some (iD (o.getD a 0 : Nat)), none])
      (fun j U' H' => Gr [p] U3 H3 U' H' ∧ ML U' H' p (fo a) ∧ ((o.take a).take j).any (fun b => decide (handI row (o.getD a 0) b ∈ rows)) = false) L3 g3.uh ?_ (.eq (.eq (.eq (.eq (.eq (.eq (.no .nil))))))) (fun _ _ g => ⟨g.any, m2.step (g3.trans g) (by simp), by simp⟩) ?_ ?_
    · refine evi_tupM nI (o.take a) ((ev_slT (ev_var rfl) evo_none (evo_some (ev_var rfl))).to ?_)
      show DV.d (.tuple (cutD (o.map nI) none (some (a : Int)))) = _
      rw [cut_take (by rw [List.length_map]; omega), List.map_take]
    · intro j b Ub2 U4 H4 U5 H5 eb ⟨g4, m4, n4⟩ _ sb2 g5
      have hb : b ∈ o := List.mem_of_mem_take (List.mem_of_getElem? eb)
      refine ⟨_, _, evg_name, fun σ5 L5 => ?_⟩
      refine s_when L5 g5.uh (b := decide (handI row (o.getD a 0) b ∈ rows)) (evt_B (ev_inTab (c_handed row (o.getD a 0) b (eva_cons (ev_var rfl) (eva_cons (ev_var rfl) (eva_cons (ev_var rfl) eva_nil))) (h1 _ hc) (h1 _ hb)) (ev_var rfl) rfl)) (fun hy U6 H6 g6 L6 => ?_) (fun hy U6 H6 g6 L6 => ?_)
      · refine q_app L6 g6.uh (ev_var rfl) (ev_var rfl) (m4.step (g5.trans g6) (by simp)) (by have := foL a; omega) fun U7 H7 g7 m7 L7 => ?_
        have by1 : busyAt rows row o a = true := List.any_eq_true.mpr ⟨b, List.mem_of_getElem? eb, hy⟩
        have g8 := ((g4.trans g5.any).trans g6.any).trans g7
        refine Nxt.of (M := [p]) (U0 := U3) (H0 := H3) (R := fun U' H' => Gr [p] U H U' H' ∧ ML U' H' p (fo (a + 1))) sb g8 (L7.sub (.eq (.eq (.eq (.eq (.no (.no (.no .nil)))))))) (And.intro ((g2.trans g3.any).trans g8) ?_)
        rw [foS a, if_pos by1]
        exact m7
      · refine nx_of (Nxt.of sb2 g6 (L6.sub (.eq (.eq (.eq (.eq (.eq (.eq (.no .nil)))))))) ⟨(g4.trans g5.any).trans g6.any, m4.step (g5.trans g6) (by simp), ?_⟩)
        rw [take_succ_at eb, List.any_append, n4]
        simpa using hy
    · intro U4 H4 σ4 L4 s1 s2 ⟨g4, m4, n4⟩
      have by0 : busyAt rows row o a = false := by
        rw [List.take_length] at n4
        exact n4
      refine nx_of (Nxt.of (M := [p]) (U0 := U3) (H0 := H3) sb g4 (L4.sub (.eq (.eq (.eq (.eq (.no (.no (.no .nil)))))))) ⟨(g2.trans g3.any).trans g4, ?_⟩)
      rw [foS a, if_neg (by rw [by0]; decide)]
      exact m4
  · intro U2 H2 σ2 L2 s1 s2 ⟨g2, m2⟩
    obtain ⟨U3, g3, e3, L3, _⟩ := ML.tell 3 S g2 hp1 m2 L2 rfl
    have el : (List.range o.length).length = o.length := List.length_range
    rw [el] at L3
    have ef : fo o.length = (busyF rows row o).map nI := by unfold busyF; rw [List.map_map]; rfl
    refine s_ret L3 g3.uh (ev_tuple (eva_cons (evn_sorted (ds := fo o.length) (eva_cons (ev_var rfl) eva_nil) (.inl rfl) (by rw [ef]; exact so_nats _)).ev eva_nil) (.inl rfl)) fun v U4 H4 g4 r4 => q v _ U4 H4 ((g3.drop (by simpa using hp1)).trans g4) r4 ?_
    rw [ef]
    rfl
abbrev s_numbers_from : Stmt := topS 33
abbrev N_numbers_from : List Str := ["counts", "numbers", "count"]
theorem sc_numbers_from : FnScope N_numbers_from ["counts"] (defScope s_numbers_from) := ⟨rfl, rfl, rfl, by decide +kernel, rfl, by decide +kernel, by decide +kernel⟩
theorem ok_numbers_from {f : Addr} {fd : FuncData} (F : Fun K "numbers_from" "numbers_from" s_numbers_from f fd) (m_max : mg "max" = none) (m_tuple : mg "tuple" = none) :
    FnOk P w K mg base CX0 1 f fd ["counts"] (prNums.sp C) := by
  refine def_ok F sc_numbers_from (fun _ => rfl) (by decide) fun cdv A outer s H E hr => ?_
  have nd := sc_numbers_from.nd
  refine ⟨_, (pss_cons (ps_set (i := 1) nd rfl (.inl rfl) (pe_op op_rep (pe_lst (pa_cons pe_int pa_nil)) (pe_op op_add (pe_callB (max_K (K := K) rfl) (by rfl) m_max (by decide +kernel) (pa_cons (pv 0) pa_nil)) pe_int)))
  (pss_cons (ps_for PassesOwn.never rfl (pi_listK (K := K) rfl (pv 0)) (pg_name (i := 2) nd rfl (.inl rfl)) (pss_one (ps_augL (pv 1) (pv 2) pe_int ip_add)))
  (pss_one (ps_ret (pe_callTy (tuple_K (K := K)) (by rfl) m_tuple (by decide +kernel) (pa_cons (pv 1) pa_nil)))))), ?_⟩
  intro y U σ Q S L hp q
  obtain ⟨h0, h1, h2⟩ : y ≠ [] ∧ y.length ≤ 10000 ∧ ∀ c ∈ y, c ≤ 1000 := hp
  have L : Lo C U σ [some (.d (nL y)), none, none] := L
  have hM : y.foldr max 0 ≤ 1000 := h2 _ (foldr_max_mem h0)
  let st : Nat → List PyData := fun i => (List.range (y.foldr max 0 + 1)).map fun k => nI ((y.take i).count k)
  have mx : RC C (rMax K) [.d (nL y)] (iD (y.foldr max 0 : Nat)) := by
    have e : nL y = intsL (asI y) := by unfold nL intsL asI; rw [List.map_map]; rfl
    rw [e]
    refine rc_max (List.mem_map.mpr ⟨_, foldr_max_mem h0, rfl⟩) fun z hz => ?_
    obtain ⟨x, hx, rfl⟩ := List.mem_map.mp hz
    have := le_foldr_max hx
    omega
  have e0 : (List.replicate (((y.foldr max 0 : Nat) : Int) + 1).toNat [nI 0]).flatten = st 0 := by
    have en : (((y.foldr max 0 : Nat) : Int) + 1).toNat = y.foldr max 0 + 1 := by omega
    rw [en]
    show _ = (List.range (y.foldr max 0 + 1)).map fun k => nI ((y.take 0).count k)
    generalize y.foldr max 0 + 1 = n
    induction n with
    | zero => rfl
    | succ n ih =>
      rw [List.replicate_succ', List.flatten_append, ih, List.range_succ, List.map_append]
      rfl
  refine q_asgN L S ((evn_rep (evn_lst (ds := [nI 0]) (eva_cons ev_int eva_nil) (by simp)).ev (ev_op (ev_call (eva_cons (ev_var rfl) eva_nil) mx) ev_int (rv_I0 rfl)) (by omega) (by omega) (by simp only [List.length_singleton]; omega)).to e0) fun p σ1 U1 H1 g1 hp1 m1 L1 => ?_
  refine q_for y (fun c => .d (nI c)) (fun i => [some (.d (nL y)), some (.adr p), none]) (fun i U' H' => Gr [p] U H U' H' ∧ ML U' H' p (st i)) L1 g1.uh (evi_listM nI y (ev_var rfl)) (.eq (.eq (.no .nil))) (fun _ _ g => ⟨(g1.trans g).any, m1.step g (by simp)⟩) ?_ ?_
  · intro i c Ub U2 H2 U3 H3 ea ⟨g2, m2⟩ _ sb g3
    have hc : c ∈ y := List.mem_of_getElem? ea
    have hcM : c < y.foldr max 0 + 1 := Nat.lt_succ_of_le (le_foldr_max hc)
    have hat : (st i)[c]? = some (nI ((y.take i).count c)) := by
      show ((List.range (y.foldr max 0 + 1)).map _)[c]? = _
      rw [List.getElem?_map, List.getElem?_range hcM]
      rfl
    refine ⟨_, _, evg_name, fun σ3 L3 => ?_⟩
    refine s_augL (j := c) L3 g3.uh (ev_var rfl) (ev_var rfl) ev_int (m2.step g3 (by simp)) rfl hat fun U4 H4 g4 m4 L4 => ?_
    refine nx_of (Nxt.of sb g4 (L4.sub (.eq (.eq (.no .nil)))) ⟨(g2.trans g3.any).trans g4, ?_⟩)
    have es : (st i).set c (.int (((y.take i).count c : Nat) + 1)) = st (i + 1) := by
      apply List.ext_getElem?
      intro k
      show _ = ((List.range (y.foldr max 0 + 1)).map fun k => nI ((y.take (i + 1)).count k))[k]?
      rw [List.getElem?_map, take_succ_at ea]
      by_cases hk : c = k
      · subst hk
        rw [List.getElem?_set_self (by show c < ((List.range (y.foldr max 0 + 1)).map _).length; rw [List.length_map, List.length_range]; exact hcM), List.getElem?_range hcM]
        show some (PyData.int _) = some (PyData.int _)
        rw [List.count_append, List.count_singleton_self]
        rfl
      · rw [List.getElem?_set_ne hk]
        show ((List.range (y.foldr max 0 + 1)).map fun k => nI ((y.take i).count k))[k]? = _
        rw [List.getElem?_map]
        by_cases hkM : k < y.foldr max 0 + 1
        · rw [List.getElem?_range hkM]
          show some (PyData.int _) = some (PyData.int _)
          rw [List.count_append, List.count_singleton, if_neg (by simpa using hk)]
          rfl
        · rw [List.getElem?_eq_none (by rw [List.length_range]; omega)]
          rfl
    rw [← es]
    exact m4
  · intro U2 H2 σ2 L2 s1 s2 ⟨g2, m2⟩
    obtain ⟨U3, g3, e3, L3, _⟩ := ML.tell 1 S g2 hp1 m2 L2 rfl
    have ef : st y.length = (numsF y).map nI := by
      show (List.range (y.foldr max 0 + 1)).map (fun k => nI ((y.take y.length).count k)) = _
      unfold numsF
      rw [List.map_map, List.take_length]
      rfl
    refine s_ret L3 g3.uh (ev_tuple (ds := st y.length) (eva_cons (ev_var rfl) eva_nil) (.inl rfl)) fun v U4 H4 g4 r4 => q v _ U4 H4 ((g3.drop (by simpa using hp1)).trans g4) r4 ?_
    rw [ef]
    rfl
end
end Kx
end
section
set_option Elab.async false
set_option linter.all false
set_option maxRecDepth 100000
set_option maxHeartbeats 4000000
namespace Kx
open PySem PySem.Spec L2
open PyProof.Rows (envOfC)
theorem rgD_nat (m : Nat) : rgD 0 (m : Int) = (List.range m).map nI := by
  unfold rgD
  have e : ((m : Int) - 0).toNat = m := by omega
  rw [e]
  exact List.map_congr_left fun i _ => by rw [Int.zero_add]
theorem eqv_nats (l : List Nat) : PyData.eqv (.list (l.map nI)) (.list (l.map nI)) = true := by
  have h := PySem.W.Datum.eqv (asI l) (asI l)
  have e : PySem.W.Datum.toD (asI l) = .list (l.map nI) := by
    show PyData.list ((asI l).map _) = _
    unfold asI
    rw [List.map_map]
    rfl
  rw [e] at h
  rw [h]
  exact decide_eq_true rfl
theorem shaped_nats (l : List Nat) : SeqAt.shaped (.list (l.map nI)) = true := by
  have h1 : ∀ l : List Nat, PyData.canLayAll0 (l.map nI) = true := fun l => by
    induction l with
    | nil => rfl
    | cons x l ih => simp [PyData.canLayAll0, PyData.canLay0, ih]
  have h2 : ∀ l : List Nat, PyData.depthAll (l.map nI) = 0 := fun l => by
    induction l with
    | nil => rfl
    | cons x l ih => simp [PyData.depthAll, PyData.depth, ih]
  simp [SeqAt.shaped, PyData.canLay0, PyData.depth, h1, h2]
section
variable {P : Program} {w : World} {K : PySem.W.Frag} {mg : Str → Option Value} {base : Heap} {C : Addr}
abbrev s_check_order : Stmt := topS 9
abbrev N_check_order : List Str := ["web", "order", "club"]
theorem sc_check_order : FnScope N_check_order ["web", "order"] (defScope s_check_order) := ⟨rfl, rfl, rfl, by decide +kernel, rfl, by decide +kernel, by decide +kernel⟩
theorem ok_check_order {f : Addr} {fd : FuncData} (F : Fun K "check_order" "check_order" s_check_order f fd) (T : WebC K C) (m_bool : mg "bool" = none) (m_int : mg "int" = none) (m_isinstance : mg "isinstance" = none) (m_len : mg "len" = none) (m_list : mg "list" = none) (m_range : mg "range" = none) (m_sorted : mg "sorted" = none) (m_tuple : mg "tuple" = none) :
    FnOk P w K mg base CX0 1 f fd ["web", "order"] (prOrder.sp C) := by
  refine def_ok F sc_check_order (fun _ => rfl) (by decide) fun cdv A outer s H E hr => ?_
  have nd := sc_check_order.nd
  refine ⟨_, (pss_cons (ps_if (PW.pt (pw_or (pt_not (pt_val (pe_callB (isiT_K (K := K)) (by rfl) m_isinstance (by decide +kernel) (pa_cons (pv 1) (pa_cons (pe_tup (pa_cons (pe_bltn (v := .ty "list") (u := .type "list") (by rfl) m_list (by decide +kernel) rfl) (pa_cons (pe_bltn (v := .ty "tuple") (u := .type "tuple") (by rfl) m_tuple (by decide +kernel) rfl) pa_nil))) pa_nil))))) (pw_or1 (pt_cmpR op_ne (pe_callB (len_K (K := K)) (by rfl) m_len (by decide +kernel) (pa_cons (pv 1) pa_nil)) (fld_K (K := K) rfl (pv 0)) (nomark _))))) (pss_one ps_never) pss_nil)
  (pss_cons (ps_for PassesOwn.never rfl (pi_seqK (K := K) rfl (pv 1)) (pg_name (i := 2) nd rfl (.inl rfl)) (pss_one (ps_if (PW.pt (pw_or (pt_not (pt_val (pe_callB (isi_K (K := K)) (by rfl) m_isinstance (by decide +kernel) (pa_cons (pv 2) (pa_cons (pe_bltn (v := .ty "int") (u := .type "int") (by rfl) m_int (by decide +kernel) rfl) pa_nil))))) (pw_or1 (pt_val (pe_callB (isi_K (K := K)) (by rfl) m_isinstance (by decide +kernel) (pa_cons (pv 2) (pa_cons (pe_bltn (v := .ty "bool") (u := .type "bool") (by rfl) m_bool (by decide +kernel) rfl) pa_nil))))))) (pss_one ps_never) pss_nil)))
  (pss_cons (ps_if (pt_cmpR (neD_K (K := K) (hu64 hr)) (pe_callB (call_sortX (K := K) (hu65 hr)) (by rfl) m_sorted (by decide +kernel) (pa_cons (pv 1) pa_nil)) (pe_listRg rfl (by rfl) m_list (prg_1 (by rfl) m_range (fld_K (K := K) rfl (pv 0)))) (nomark _)) (pss_one ps_never) pss_nil)
  (pss_one (ps_ret (pe_callTy (tuple_K (K := K)) (by rfl) m_tuple (by decide +kernel) (pa_cons (pv 1) pa_nil))))))), ?_⟩
  intro y U σ Q S L hp q
  obtain ⟨⟨n, m, ts⟩, b, o⟩ := y
  obtain ⟨h1, h2⟩ : IsOrd m o ∧ m ≤ 100 := hp
  have L : Lo C U σ [some (.web n m ts), some (.d (seqLT b (o.map nI))), none] := L
  have hl := h1.len
  refine q_skip L S ((evt_or (evt_not (evt_B (ev_isiSeq (ev_var rfl)))) fun _ => evt_test (ev_op (ev_call (eva_cons (ev_var rfl) eva_nil) rc_lenS) (ev_clubs (ev_var rfl) T.cl T.n2) (rv_neI (b := false) (by rw [List.length_map, hl]; simp)))).to rfl) fun U1 H1 g1 L1 => ?_
  refine q_for o (fun c => .d (nI c)) (fun i => [some (.web n m ts), some (.d (seqLT b (o.map nI))), none]) (fun i U' H' => Gr [] U H U' H') L1 g1.uh (evi_seqM nI o (ev_var rfl)) (.eq (.eq (.no .nil))) (fun _ _ g => g1.trans g) ?_ ?_
  · intro i c Ub U2 H2 U3 H3 ea g2 _ sb g3
    refine ⟨_, _, evg_name, fun σ3 L3 => ?_⟩
    refine s_skip L3 g3.uh ((evt_or (evt_not (evt_B (ev_isi (t := "int") (b := true) (ev_var rfl) rfl (by decide +kernel)))) fun _ => evt_B (ev_isi (t := "int") (b := false) (ev_var rfl) rfl (by decide +kernel))).to rfl) fun U4 H4 g4 L4 => ?_
    exact nx_of (Nxt.of sb g4 (L4.sub (.eq (.eq (.no .nil)))) ((g2.trans g3).trans g4))
  · intro U2 H2 σ2 L2 s1 s2 g2
    have es : sortD (o.map nI) = (List.range m).map nI := sortD_nats h1 (List.pairwise_le_range)
    refine q_skip L2 s2 (evt_test (ev_op (evn_sorted (eva_cons (ev_var rfl) eva_nil) (seq_alt b (o.map nI)) (so_nats o)).ev (evn_listRg (ev_clubs (ev_var rfl) T.cl T.n2) (by omega) (by omega)).ev (rv_neD (p := false) ?_ ?_ ?_))) fun U3 H3 g3 L3 => ?_
    · rw [es]; exact shaped_nats _
    · rw [rgD_nat]; exact shaped_nats _
    · rw [es, rgD_nat, eqv_nats]; rfl
    · exact s_ret L3 g3.uh (ev_tuple (eva_cons (ev_var rfl) eva_nil) (seq_alt b (o.map nI))) fun v U4 H4 g4 r4 => q v _ U4 H4 ((g2.trans g3).trans g4) r4 rfl
theorem shownRows_len {n m : Nat} {ts : List (Nat × Nat)} : ∀ r ∈ shownRows n m ts, r.length = m := fun r hr => by
  unfold shownRows at hr
  obtain ⟨p, hp, rfl⟩ := List.mem_map.mp hr
  exact (rowsAt_mem _ _ m p (List.mem_filter.mp hp).1).1
theorem shownRows_few {n m : Nat} {ts : List (Nat × Nat)} (h : WebOk n m ts) : (shownRows n m ts).length ≤ 2401 := by
  unfold shownRows
  rw [List.length_map]
  have h1 := List.length_filter_le (fun p : Row => decide (lastD p.2 = n - 1)) (rowsAt (heldC n m ts) (n - 1) m)
  have h2 := rowsAt_few (heldC n m ts) (most := n - 1) (by have := h.n4; omega) m
  have h3 : 7 ^ m ≤ 7 ^ 4 := Nat.pow_le_pow_right (by decide) h.m4
  omega
theorem rowsI (l : List (List Nat)) : (l.map nT) = (l.map asI).map intsD := by
  rw [List.map_map]
  refine List.map_congr_left fun r _ => ?_
  show PyData.tuple _ = PyData.tuple _
  unfold asI
  rw [List.map_map]
  rfl
theorem nT_asI (r : List Nat) : nT r = intsD (asI r) := by
  show PyData.tuple _ = PyData.tuple _
  unfold asI
  rw [List.map_map]
  rfl
abbrev s_inward_by : Stmt := topS 34
abbrev N_inward_by : List Str := ["web", "order", "told", "rows", "known", "row"]
theorem sc_inward_by : FnScope N_inward_by ["web", "order"] (defScope s_inward_by) := ⟨rfl, rfl, rfl, by decide +kernel, rfl, by decide +kernel, by decide +kernel⟩
theorem ok_inward_by {f : Addr} {fd : FuncData} (F : Fun K "inward_by" "inward_by" s_inward_by f fd) (m_len : mg "len" = none) (F_busy_among : Has P w K mg base "busy_among" 2 ["known", "row", "order"] [] (prBusy.sp C)) (F_check_order : Has P w K mg base "check_order" 1 ["web", "order"] [] (prOrder.sp C)) (F_numbers_from : Has P w K mg base "numbers_from" 1 ["counts"] [] (prNums.sp C)) (F_shown_rows : Has P w K mg base "shown_rows" 5 ["web"] [] (prShown.sp C)) (F_table_of : Has P w K mg base "table_of" 1 ["rows"] [] (prTable.sp C)) :
    FnOk P w K mg base CX0 6 f fd ["web", "order"] (prInward.sp C) := by
  refine def_ok F sc_inward_by (fun _ => rfl) (by decide) fun cdv A outer s H E hr => ?_
  have nd := sc_inward_by.nd
  refine ⟨_, (pss_cons (ps_set (i := 2) nd rfl (.inr rfl) (pe_fn F_check_order (hr.mono (by decide)) (by rfl) (pa_cons (pv 0) (pa_cons (pv 1) pa_nil))))
  (pss_cons (ps_set (i := 3) nd rfl (.inl rfl) (pe_fn F_shown_rows (hr.mono (by decide)) (by rfl) (pa_cons (pv 0) pa_nil)))
  (pss_cons (ps_set (i := 4) nd rfl (.inr rfl) (pe_fn F_table_of (hr.mono (by decide)) (by rfl) (pa_cons (pv 3) pa_nil)))
  (pss_one (ps_ret (pe_fn F_numbers_from (hr.mono (by decide)) (by rfl) (pa_cons (pe_lc (own := [("row", 5)]) (g := gName 5) rfl nd (pi_tupK (K := K) rfl (pv 3)) (blkOk_by (own := [("row", 5)]) (N := N_inward_by) (sc := defScope s_inward_by) (by decide +kernel)) (fun _ _ _ _ _ => (pg_name (i := 5) nd rfl (.inl rfl))) (fun _ _ _ _ _ => pts_nil) (fun _ _ _ _ _ => (pe_callB (len_K (K := K)) (by rfl) m_len (by decide +kernel) (pa_cons (pe_fn F_busy_among (hr.mono (by decide)) (by rfl) (pa_cons (pv 4) (pa_cons (pv 5) (pa_cons (pv 2) pa_nil)))) pa_nil)))) pa_nil))))))), ?_⟩
  intro y U σ Q S L hp q
  obtain ⟨⟨n, m, ts⟩, b, o⟩ := y
  obtain ⟨h1, h2, h3⟩ : IsOrd m o ∧ WebOk n m ts ∧ shownRows n m ts ≠ [] := hp
  have L : Lo C U σ [some (.web n m ts), some (.d (seqLT b (o.map nI))), none, none, none, none] := L
  have hm4 := h2.m4
  have few := shownRows_few h2
  refine q_asg L S (c_order b o (eva_cons (ev_var rfl) (eva_cons (ev_var rfl) eva_nil)) h1 (by omega)) fun σ1 U1 H1 g1 L1 => ?_
  refine q_asg L1 g1.uh (c_shown (eva_cons (ev_var rfl) eva_nil) h2) fun σ2 U2 H2 g2 L2 => ?_
  refine q_asg L2 g2.uh (c_table ((shownRows n m ts).map asI) (eva_cons ((ev_var rfl).to (by rw [rowsI])) eva_nil) (by rw [List.length_map]; omega)) fun σ3 U3 H3 g3 L3 => ?_
  refine s_ret L3 g3.uh (c_nums ((shownRows n m ts).map fun r => (busyF ((shownRows n m ts).map asI) (asI r) o).length) (eva_cons ((evn_lc (js := [5]) (shownRows n m ts) (fun r => .d (nT r)) (fun r => nI (busyF ((shownRows n m ts).map asI) (asI r) o).length) (evi_tupM nT _ (ev_var rfl)) (by omega) (by simp)
    (fun r hr => ⟨_, evg_name, ?_⟩)).ev.to ?_) eva_nil) (by simpa using h3) (by rw [List.length_map]; omega) ?_) fun v U4 H4 g4 r4 => q v _ U4 H4 (((g1.trans g2).trans g3).trans g4) r4 rfl
  · refine (ev_call (eva_cons (c_busy ((shownRows n m ts).map asI) (asI r) o (eva_cons (ev_var rfl) (eva_cons ((ev_var rfl).to (congrArg DV.d (nT_asI r))) (eva_cons (ev_var rfl) eva_nil))) ?_ (by rw [h1.len]; omega)) eva_nil) rc_lenT).to ?_
    · intro c hc
      show c < (r.map _).length
      rw [List.length_map, shownRows_len r hr]
      exact h1.lt c hc
    · rw [(sortD_perm _).length_eq, List.length_map]
  · show DV.d (.list _) = DV.d (nL _)
    unfold nL
    rw [List.map_map]
    rfl
  · intro c hc
    obtain ⟨r, _, rfl⟩ := List.mem_map.mp hc
    have := busyF_len ((shownRows n m ts).map asI) (asI r) o
    have := h1.len
    omega
abbrev s_inward_of : Stmt := topS 35
abbrev N_inward_of : List Str := ["web"]
theorem sc_inward_of : FnScope N_inward_of ["web"] (defScope s_inward_of) := ⟨rfl, rfl, rfl, by decide +kernel, rfl, by decide +kernel, by decide +kernel⟩
theorem ok_inward_of {f : Addr} {fd : FuncData} (F : Fun K "inward_of" "inward_of" s_inward_of f fd) (F_inward_by : Has P w K mg base "inward_by" 6 ["web", "order"] [] (prInward.sp C)) (F_own_order : Has P w K mg base "own_order" 1 ["web"] [] (prOwnOrder.sp C)) :
    FnOk P w K mg base CX0 7 f fd ["web"] (prInwardOf.sp C) := by
  refine def_ok F sc_inward_of (fun _ => rfl) (by decide) fun cdv A outer s H E hr => ?_
  have nd := sc_inward_of.nd
  refine ⟨_, (pss_one (ps_ret (pe_fn F_inward_by (hr.mono (by decide)) (by rfl) (pa_cons (pv 0) (pa_cons (pe_fn F_own_order (hr.mono (by decide)) (by rfl) (pa_cons (pv 0) pa_nil)) pa_nil))))), ?_⟩
  intro y U σ Q S L hp q
  obtain ⟨n, m, ts⟩ := y
  obtain ⟨h2, h3⟩ : WebOk n m ts ∧ shownRows n m ts ≠ [] := hp
  have L : Lo C U σ [some (.web n m ts)] := L
  have hm4 := h2.m4
  exact s_ret L S (c_inward false (List.range m) (eva_cons (ev_var rfl) (eva_cons (c_ownOrder (eva_cons (ev_var rfl) eva_nil) (by omega)) eva_nil)) (List.Perm.refl _) h2 h3) fun v U1 H1 g1 r1 => q v _ U1 H1 g1 r1 rfl
end
end Kx
end
section
set_option Elab.async false
set_option linter.all false
set_option maxRecDepth 100000
set_option maxHeartbeats 4000000
namespace Kx
open PySem PySem.Spec L2
open PyProof.Rows (envOfC)
open PySem.W (Datum DatumOrd)
theorem pairD_toD (p : Nat × Nat) : pairD p = Datum.toD ((p.1 : Int), (p.2 : Int)) := rfl
theorem pairs_toD (ts : List (Nat × Nat)) : ts.map pairD = (ts.map fun p => ((p.1 : Int), (p.2 : Int))).map Datum.toD := by
  rw [List.map_map]
  rfl
theorem so_pairs (ts : List (Nat × Nat)) : SortOk (ts.map pairD) := by
  rw [pairs_toD]
  exact so_datum _ (PySem.W.Sortable.tuples fun b => ⟨_, _, rfl⟩) (fun a => rfl) (by decide)
theorem sortD_pairs (ts : List (Nat × Nat)) : sortD (ts.map pairD) = (sortP ts).map pairD := by
  rw [pairs_toD, pairs_toD (sortP ts)]
  refine sortD_eq (fun a b h1 h2 => ?_) ((sortP_perm ts).symm.map _) ?_
  · obtain ⟨a1, a2⟩ := a
    obtain ⟨b1, b2⟩ := b
    have h1 : (if a1 = b1 then decide (a2 < b2) else decide (a1 < b1)) = false := h1
    have h2 : (if b1 = a1 then decide (b2 < a2) else decide (b1 < a1)) = false := h2
    by_cases e : a1 = b1
    · subst e
      rw [if_pos rfl] at h1 h2
      have h1 := of_decide_eq_false h1
      have h2 := of_decide_eq_false h2
      have : a2 = b2 := by omega
      rw [this]
    · rw [if_neg e] at h1
      rw [if_neg (Ne.symm e)] at h2
      have h1 := of_decide_eq_false h1
      have h2 := of_decide_eq_false h2
      omega
  · rw [List.pairwise_map]
    refine (sortP_sorted ts).imp fun {a b} h => ?_
    show (if (b.1 : Int) = a.1 then decide ((b.2 : Int) < a.2) else decide ((b.1 : Int) < a.1)) = false
    split
    · exact decide_eq_false (by omega)
    · exact decide_eq_false (by omega)
/-- what Web takes -/
structure WebIn (n m : Nat) (ts : List (Nat × Nat)) : Prop where
  n1 : 1 ≤ n
  n6 : n ≤ 6
  m1 : 1 ≤ m
  m6 : m ≤ 6
  few : ts.length ≤ 12
  th : ∀ t ∈ ts, t.1 < n
  cl : ∀ t ∈ ts, t.2 < m
  nd : ts.Nodup
  one : dist (asI (marksF n m (sortP ts))) = 1
abbrev prPieces : Prm WebA := .fn (fun x => [iD x.1, iD x.2.1, .d (.tuple (x.2.2.map pairD))]) (fun x => x.1 + x.2.1 ≤ 12 ∧ x.2.2.length ≤ 12 ∧ (∀ t ∈ x.2.2, t.1 < x.1) ∧ ∀ t ∈ x.2.2, t.2 < x.2.1) fun x => iD (dist (asI (marksF x.1 x.2.1 x.2.2)))
abbrev prTurned : Prm WebA := .fn (fun x => [webD x]) (fun x => WebIn x.2.1 x.1 (flipT x.2.2)) fun x => .web x.2.1 x.1 (sortP (flipT x.2.2))
abbrev prThingInw : Prm WebA := .fn (fun x => [webD x]) (fun x => WebIn x.2.1 x.1 (flipT x.2.2) ∧ WebOk x.2.1 x.1 (sortP (flipT x.2.2)) ∧ shownRows x.2.1 x.1 (sortP (flipT x.2.2)) ≠ [])
  fun x => .d (nT (inwardN x.2.1 x.1 (sortP (flipT x.2.2)) (List.range x.1)))
abbrev HasW (P : Program) (w : World) (K : PySem.W.Frag) (mg : Str → Option Value) (base : Heap) (C : Addr) (k : Nat) : Prop := HasWeb P w K mg base C k WebIn sortP
section
variable {C : Addr} {ρ : Ro} {t : TA} {E : XK} {n m : Nat} {ts : List (Nat × Nat)}
theorem c_pieces (h : EvA C t ρ [iD n, iD m, .d (.tuple (ts.map pairD))]) (h1 : n + m ≤ 12) (h2 : ts.length ≤ 12) (h3 : ∀ t ∈ ts, t.1 < n) (h4 : ∀ t ∈ ts, t.2 < m) : Ev C (tCall (prPieces.sp C) [] E t) ρ (iD (dist (asI (marksF n m ts)))) := ev_fn (args := prPieces.args) (pre := prPieces.pre) (n, m, ts) h ⟨h1, h2, h3, h4⟩
theorem c_turned (h : EvA C t ρ [.web n m ts]) (h1 : WebIn m n (flipT ts)) : Ev C (tCall (prTurned.sp C) [] E t) ρ (.web m n (sortP (flipT ts))) := ev_fn (args := prTurned.args) (pre := prTurned.pre) (n, m, ts) h h1
theorem c_thingInw (h : EvA C t ρ [.web n m ts]) (h1 : WebIn m n (flipT ts)) (h2 : WebOk m n (sortP (flipT ts))) (h3 : shownRows m n (sortP (flipT ts)) ≠ []) :
    Ev C (tCall (prThingInw.sp C) [] E t) ρ (.d (nT (inwardN m n (sortP (flipT ts)) (List.range n)))) := ev_fn (args := prThingInw.args) (pre := prThingInw.pre) (n, m, ts) h ⟨h1, h2, h3⟩
end
section
variable {P : Program} {w : World} {K : PySem.W.Frag} {mg : Str → Option Value} {base : Heap} {C : Addr}
abbrev s_count_pieces : Stmt := topS 18
abbrev N_count_pieces : List Str := ["things", "clubs", "ties", "marks", "thing", "club", "one", "other", "mark"]
theorem sc_count_pieces : FnScope N_count_pieces ["things", "clubs", "ties"] (defScope s_count_pieces) := ⟨rfl, rfl, rfl, by decide +kernel, rfl, by decide +kernel, by decide +kernel⟩
theorem ok_count_pieces {f : Addr} {fd : FuncData} (F : Fun K "count_pieces" "count_pieces" s_count_pieces f fd) (m_len : mg "len" = none) (m_list : mg "list" = none) (m_range : mg "range" = none) (m_set : mg "set" = none) :
    FnOk P w K mg base CX0 1 f fd ["things", "clubs", "ties"] (prPieces.sp C) := by
  refine def_ok F sc_count_pieces (fun _ => rfl) (by decide) fun cdv A outer s H E hr => ?_
  have nd := sc_count_pieces.nd
  refine ⟨_, (pss_cons (ps_set (i := 3) nd rfl (.inl rfl) (pe_listRg rfl (by rfl) m_list (prg_1 (by rfl) m_range (pe_op op_add (pv 0) (pv 1)))))
  (pss_cons (ps_for PassesOwn.never rfl (pi_tupK (K := K) rfl (pv 2)) (pg_tup rfl (pgs_cons (pg_name (i := 4) nd rfl (.inl rfl)) (pgs_cons (pg_name (i := 5) nd rfl (.inl rfl)) pgs_nil))) (pss_cons (ps_set (i := 6) nd rfl (.inr rfl) (pe_ix (ix_listK (K := K)) (pv 3) (pv 4) (fun _ _ => rfl)))
  (pss_cons (ps_set (i := 7) nd rfl (.inr rfl) (pe_ix (ix_listK (K := K)) (pv 3) (pe_op op_add (pv 0) (pv 5)) (fun _ _ => rfl)))
  (pss_one (ps_setLc (i := 3) (own := [("mark", 8)]) (g := gName 8) rfl nd rfl rfl (sw_true rfl rfl rfl (by decide +kernel)) (pi_listK (K := K) rfl (pv 3)) (blkOk_by (own := [("mark", 8)]) (N := N_count_pieces) (sc := defScope s_count_pieces) (by decide +kernel)) (fun _ _ _ _ _ => (pg_name (i := 8) nd rfl (.inl rfl))) (fun _ _ _ _ _ => pts_nil) (fun _ _ _ _ _ => (pe_ifExp (pt_cmpR op_eq (pv 8) (pv 7) (nomark _)) (pv 6) (pv 8))))))))
  (pss_one (ps_ret (pe_lenSet (K := K) (by rfl) m_len (by rfl) m_set (pv 3) rfl))))), ?_⟩
  intro y U σ Q S L hp q
  obtain ⟨n, m, ts⟩ := y
  obtain ⟨h1, h2, h3, h4⟩ : n + m ≤ 12 ∧ ts.length ≤ 12 ∧ (∀ t ∈ ts, t.1 < n) ∧ ∀ t ∈ ts, t.2 < m := hp
  have L : Lo C U σ [some (iD n), some (iD m), some (.d (.tuple (ts.map pairD))), none, none, none, none, none, none] := L
  refine q_asg L S ((evn_listRg (ev_op (ev_var rfl) (ev_var rfl) (rv_I0 rfl)) (by omega) (by omega)).ev.to (d := _) (b := .d (nL (List.range (n + m)))) ?_) fun σ1 U1 H1 g1 L1 => ?_
  · show DV.d (.list (rgD 0 ((n : Int) + m))) = _
    have e : ((n : Int) + m) = ((n + m : Nat) : Int) := by omega
    rw [e, rgD_nat]
    rfl
  have lenM : ∀ i, ((ts.take i).foldl (markStep n) (List.range (n + m))).length = n + m := fun i => by rw [marks_len, List.length_range]
  refine q_for ts (fun t => .d (pairD t)) (fun i => [some (iD n), some (iD m), some (.d (.tuple (ts.map pairD))), some (.d (nL ((ts.take i).foldl (markStep n) (List.range (n + m))))), none, none, none, none, none]) (fun i U' H' => Gr [] U H U' H') L1 g1.uh
    (evi_tupM pairD ts (ev_var rfl)) (.eq (.eq (.eq (.eq (.no (.no (.no (.no (.no .nil))))))))) (fun _ _ g => g1.trans g) ?_ ?_
  · intro i t Ub U2 H2 U3 H3 ea g2 _ sb g3
    have ht : t ∈ ts := List.mem_of_getElem? ea
    have t1 := h3 t ht
    have t2 := h4 t ht
    refine ⟨_, _, evg_pair, fun σ3 L3 => ?_⟩
    generalize hM : (ts.take i).foldl (markStep n) (List.range (n + m)) = M at L3
    have lM : M.length = n + m := by rw [← hM]; exact lenM i
    refine q_asg L3 g3.uh (ev_op (ev_var rfl) (ev_var rfl) (rv_ixL (at_map (f := nI) (x := M.getD t.1 0) (getD_at (by omega))))) fun σ4 U4 H4 g4 L4 => ?_
    refine q_asg L4 g4.uh (ev_op (ev_var rfl) ((ev_op (ev_var rfl) (ev_var rfl) (rv_I0 rfl)).to (b := iD (n + t.2 : Nat)) (congrArg iD (by omega))) (rv_ixL (at_map (f := nI) (x := M.getD (n + t.2) 0) (getD_at (by omega))))) fun σ5 U5 H5 g5 L5 => ?_
    refine s_asg L5 g5.uh ((evn_lc (js := [8]) M (fun k => .d (nI k)) (fun k => nI (if k = M.getD (n + t.2) 0 then M.getD t.1 0 else k)) (evi_listM nI M (ev_var rfl)) (by omega) (by simp) (fun k hk => ⟨_, evg_name, ?_⟩)).ev.to (b := .d (nL (markStep n M t))) ?_) fun σ6 U6 H6 g6 L6 => ?_
    · refine ev_if (p := decide (k = M.getD (n + t.2) 0)) (evt_test (ev_op (ev_var rfl) (ev_var rfl) (rv_eqI (decide_eq_decide.mpr (by omega))))) (fun hb => ?_) (fun hb => ?_)
      · rw [if_pos (of_decide_eq_true hb)]; exact ev_var rfl
      · rw [if_neg (of_decide_eq_false hb)]; exact ev_var rfl
    · unfold nL markStep
      rw [List.map_map]
      rfl
    · refine nx_of (Nxt.of sb (g4.trans (g5.trans g6)) (L6.sub (.eq (.eq (.eq ?_)))) ((g2.trans g3).trans (g4.trans (g5.trans g6))))
      rw [take_succ_at ea, List.foldl_append, hM]
      exact .eq (.no (.no (.no (.no (.no .nil)))))
  · intro U2 H2 σ2 L2 s1 s2 g2
    have el : (ts.take ts.length).foldl (markStep n) (List.range (n + m)) = marksF n m ts := by rw [List.take_length]; rfl
    rw [el] at L2
    have lM : (marksF n m ts).length = n + m := by rw [← el]; exact lenM _
    refine s_ret L2 s2 (ev_lenI (ns := asI (marksF n m ts)) ((ev_var rfl).to (b := .d (intsL (asI (marksF n m ts)))) ?_) (by unfold asI; rw [List.length_map]; omega)) fun v U3 H3 g3 r3 => q v _ U3 H3 (g2.trans g3) r3 rfl
    unfold nL intsL asI
    rw [List.map_map]
    rfl
end
end Kx
end
section
set_option Elab.async false
set_option linter.all false
set_option maxRecDepth 100000
set_option maxHeartbeats 4000000
namespace Kx
open PySem PySem.Spec L2
open PyProof.Rows (envOfC)
theorem inb_yes {z a b : Int} (h1 : a ≤ z) (h2 : z ≤ b) : (!inb z (some a) (some b)) = false := by
  show (!(decide (a ≤ z) && decide (z ≤ b))) = false
  rw [decide_eq_true h1, decide_eq_true h2]
  rfl
theorem pairs_rows (ts : List (Nat × Nat)) : ts.map pairD = (ts.map fun p => [(p.1 : Int), (p.2 : Int)]).map intsD := by
  rw [List.map_map]
  rfl
section
variable {P : Program} {w : World} {K : PySem.W.Frag} {mg : Str → Option Value} {base : Heap} {C : Addr}
abbrev s_Web_init : Stmt := inClass (topS 17) 0
abbrev N_Web_init : List Str := ["self", "things", "clubs", "ties", "kept", "entry"]
theorem sc_Web_init : FnScope N_Web_init ["self", "things", "clubs", "ties"] (defScope s_Web_init) := ⟨rfl, rfl, rfl, by decide +kernel, rfl, by decide +kernel, by decide +kernel⟩
theorem ok_Web_init {f : Addr} {fd : FuncData} (F : Fun K "__init__" "Web.__init__" s_Web_init f fd) (T : WebC K C) (m_len : mg "len" = none) (m_set : mg "set" = none) (m_sorted : mg "sorted" = none) (m_tuple : mg "tuple" = none) (F_count_pieces : Has P w K mg base "count_pieces" 1 ["things", "clubs", "ties"] [] (prPieces.sp C)) (F_is_couple : Has P w K mg base "is_couple" 2 ["thing"] [] (prCouple.sp C)) (F_is_sequence : Has P w K mg base "is_sequence" 1 ["thing"] [] (prSeq.sp C)) (F_is_whole : Has P w K mg base "is_whole" 1 ["thing", "low", "high"] [] (prWhole.sp C)) :
    FnOk P w K mg base CX0 3 f fd ["self", "things", "clubs", "ties"] (spInit C WebIn sortP) := by
  refine F.ok sc_Web_init (fun vs H Q E ⟨n, m, ts, l, x, dx, U, e, _⟩ => by rw [e]; rfl) fun cdv A outer s H vs Q E hr h => ?_
  have nd := sc_Web_init.nd
  refine ⟨_, (pss_cons (ps_if (pt_not (pt_val (pe_fn F_is_whole (hr.mono (by decide)) (by rfl) (pa_cons (pv 1) (pa_cons pe_int (pa_cons pe_int pa_nil)))))) (pss_one ps_never) pss_nil)
  (pss_cons (ps_if (pt_not (pt_val (pe_fn F_is_whole (hr.mono (by decide)) (by rfl) (pa_cons (pv 2) (pa_cons pe_int (pa_cons pe_int pa_nil)))))) (pss_one ps_never) pss_nil)
  (pss_cons (ps_if (pt_not (pt_val (pe_fn F_is_sequence (hr.mono (by decide)) (by rfl) (pa_cons (pv 3) pa_nil)))) (pss_one ps_never) pss_nil)
  (pss_cons (ps_set (i := 4) nd rfl (.inl rfl) (pe_lst pa_nil))
  (pss_cons (ps_for PassesOwn.never rfl (pi_listK (K := K) rfl (pv 3)) (pg_name (i := 5) nd rfl (.inl rfl)) (pss_cons (ps_if (PW.pt (pw_or (pt_not (pt_val (pe_fn F_is_couple (hr.mono (by decide)) (by rfl) (pa_cons (pv 5) pa_nil)))) (pw_or (pt_not (pt_val (pe_fn F_is_whole (hr.mono (by decide)) (by rfl) (pa_cons (pe_ix (ix_tupK (K := K)) (pv 5) pe_int (fun _ _ => rfl)) (pa_cons pe_int (pa_cons (pe_op op_sub (pv 1) pe_int) pa_nil)))))) (pw_or1 (pt_not (pt_val (pe_fn F_is_whole (hr.mono (by decide)) (by rfl) (pa_cons (pe_ix (ix_tupK (K := K)) (pv 5) pe_int (fun _ _ => rfl)) (pa_cons pe_int (pa_cons (pe_op op_sub (pv 2) pe_int) pa_nil)))))))))) (pss_one ps_never) pss_nil)
  (pss_one (ps_expr (pe_bm PySem.F.plainAttrs_list PySem.F.slot_list_append PySem.F.type_list_append mt_append (pv 4) (pa_cons (pe_tup (pa_cons (pe_ix (ix_tupK (K := K)) (pv 5) pe_int (fun _ _ => rfl)) (pa_cons (pe_ix (ix_tupK (K := K)) (pv 5) pe_int (fun _ _ => rfl)) pa_nil))) pa_nil))))))
  (pss_cons (ps_if (pt_cmpR op_ne (pe_lenSetT (K := K) (hu64 hr) (by rfl) m_len (by rfl) m_set (pv 4) rfl) (pe_callB (len_K (K := K)) (by rfl) m_len (by decide +kernel) (pa_cons (pv 4) pa_nil)) (nomark _)) (pss_one ps_never) pss_nil)
  (pss_cons (ps_if (pt_cmpR op_gt (pe_callB (len_K (K := K)) (by rfl) m_len (by decide +kernel) (pa_cons (pv 4) pa_nil)) pe_int (nomark _)) (pss_one ps_never) pss_nil)
  (pss_cons (fldS_K (K := K) rfl (pv 0) (pv 1) rfl)
  (pss_cons (fldS_K (K := K) rfl (pv 0) (pv 2) rfl)
  (pss_cons (fldS_K (K := K) rfl (pv 0) (pe_callTy (tuple_K (K := K)) (by rfl) m_tuple (by decide +kernel) (pa_cons (pe_callB (call_sortX (K := K) (hu65 hr)) (by rfl) m_sorted (by decide +kernel) (pa_cons (pv 4) pa_nil)) pa_nil)) rfl)
  (pss_one (ps_if (pt_cmpR op_ne (pe_fn F_count_pieces (hr.mono (by decide)) (by rfl) (pa_cons (pv 1) (pa_cons (pv 2) (pa_cons (fld_K (K := K) rfl (pv 0)) pa_nil)))) pe_int (nomark _)) (pss_one ps_never) pss_nil)))))))))))), ?_⟩
  obtain ⟨n, m, ts, l, x, dx, U, rfl, S, hl, ux, hx, hp, q⟩ := h
  have L : Lo C U (L2.start N_Web_init [.ref x, .int n, .int m, l]) ([some (.adr x), some (iD n), some (iD m), some (.d (.list (ts.map pairD)))] ++ List.replicate (N_Web_init.length - 4) none) :=
    loc_start (ds := [.adr x, iD n, iD m, .d (.list (ts.map pairD))]) (.cons rfl (.cons (.int _) (.cons (.int _) (.cons hl .nil)))) (by show 4 ≤ 6; decide)
  generalize L2.start N_Web_init [.ref x, .int n, .int m, l] = σ at L
  have L : Lo C U σ [some (.adr x), some (iD n), some (iD m), some (.d (.list (ts.map pairD))), none, none] := L
  have b1 := hp.n1
  have b2 := hp.n6
  have b3 := hp.m1
  have b4 := hp.m6
  have few := hp.few
  refine q_skip L S ((evt_not (evt_B (c_whole n (some 1) (some 6) (eva_cons (ev_var rfl) (eva_cons ev_int (eva_cons ev_int eva_nil)))))).to (inb_yes (by omega) (by omega))) fun U1 H1 g1 L1 => ?_
  refine q_skip L1 g1.uh ((evt_not (evt_B (c_whole m (some 1) (some 6) (eva_cons (ev_var rfl) (eva_cons ev_int (eva_cons ev_int eva_nil)))))).to (inb_yes (by omega) (by omega))) fun U2 H2 g2 L2 => ?_
  refine q_skip L2 g2.uh ((evt_not (evt_B (c_seq true (ts.map pairD) (eva_cons (ev_var rfl) eva_nil)))).to rfl) fun U3 H3 g3 L3 => ?_
  have g03 := (g1.trans g2).trans g3
  refine q_asgN L3 g3.uh (evn_lst (ds := []) eva_nil (by simp)) fun p σ4 U4 H4 g4 hp4 m4 L4 => ?_
  refine q_for ts (fun t => .d (pairD t)) (fun i => [some (.adr x), some (iD n), some (iD m), some (.d (.list (ts.map pairD))), some (.adr p), none]) (fun i U' H' => Gr [p] U3 H3 U' H' ∧ ML U' H' p ((ts.take i).map pairD)) L4 g4.uh
    (evi_listM pairD ts (ev_var rfl)) (.eq (.eq (.eq (.eq (.eq (.no .nil)))))) (fun _ _ g => ⟨(g4.trans g).any, m4.step g (by simp)⟩) ?_ ?_
  · intro i t Ub U5 H5 U6 H6 ea ⟨g5, m5⟩ _ sb g6
    have ht : t ∈ ts := List.mem_of_getElem? ea
    have t1 := hp.th t ht
    have t2 := hp.cl t ht
    have it : i < ts.length := (List.getElem?_eq_some_iff.mp ea).1
    refine ⟨_, _, evg_name, fun σ6 L6 => ?_⟩
    refine q_skip L6 g6.uh ((evt_or (p := false) (q := false) ((evt_not (evt_B (c_couple false [nI t.1, nI t.2] (eva_cons (ev_var rfl) eva_nil)))).to rfl) fun _ =>
      (evt_or (p := false) (q := false) ((evt_not (evt_B (c_whole t.1 (some 0) (some ((n : Int) - 1)) (eva_cons (ev_op (ev_var rfl) ev_int (rv_ixT (ds := [nI t.1, nI t.2]) (c := nI t.1) rfl)) (eva_cons ev_int (eva_cons (ev_op (ev_var rfl) ev_int (rv_I0 rfl)) eva_nil)))))).to (inb_yes (by omega) (by omega))) fun _ =>
      (evt_not (evt_B (c_whole t.2 (some 0) (some ((m : Int) - 1)) (eva_cons (ev_op (ev_var rfl) ev_int (rv_ixT (ds := [nI t.1, nI t.2]) (c := nI t.2) rfl)) (eva_cons ev_int (eva_cons (ev_op (ev_var rfl) ev_int (rv_I0 rfl)) eva_nil)))))).to (inb_yes (by omega) (by omega)))).to rfl) fun U7 H7 g7 L7 => ?_
    refine s_app L7 g7.uh (ev_var rfl) (ev_tup (ds := [nI t.1, nI t.2]) (eva_cons (ev_op (ev_var rfl) ev_int (rv_ixT (ds := [nI t.1, nI t.2]) (c := nI t.1) rfl)) (eva_cons (ev_op (ev_var rfl) ev_int (rv_ixT (ds := [nI t.1, nI t.2]) (c := nI t.2) rfl)) eva_nil)) (by simp))
      (m5.step (g6.trans g7) (by simp)) (by rw [List.length_map, List.length_take]; omega) fun U8 H8 g8 m8 L8 => ?_
    refine nx_of (Nxt.of (M := [p]) sb (g7.any.trans g8) (L8.sub (.eq (.eq (.eq (.eq (.eq (.no .nil))))))) ⟨((g5.trans g6.any).trans g7.any).trans g8, ?_⟩)
    rw [take_succ_at ea, List.map_append]
    exact m8
  · intro U5 H5 σ5 L5 s1 s2 ⟨g5, m5⟩
    obtain ⟨U6, g6, e6, L6, _⟩ := ML.tell 4 g3.uh g5 hp4 m5 L5 rfl
    rw [List.take_length] at L6
    have g06 : Gr [] U H U6 H5 := g03.trans (g6.drop (by simpa using hp4))
    have L6 : Lo C U6 σ5 [some (.adr x), some (iD n), some (iD m), some (.d (.list (ts.map pairD))), some (.d (.list (ts.map pairD))), none] := L6
    refine q_skip L6 g6.uh (evt_test (ev_op (ev_lenT (rs := ts.map fun p => [(p.1 : Int), (p.2 : Int)]) ((ev_var rfl).to (congrArg (fun z => DV.d (.list z)) (pairs_rows ts))) (by rw [List.length_map]; omega) ?_) (ev_call (eva_cons (ev_var rfl) eva_nil) rc_lenLM) (rv_neI (b := false) ?_))) fun U7 H7 g7 L7 => ?_
    · refine List.Pairwise.map _ (fun a b (h : a ≠ b) z => h ?_) hp.nd
      have z1 := (List.cons.inj z).1
      have z2 := (List.cons.inj (List.cons.inj z).2).1
      exact Prod.ext (by omega) (by omega)
    · rw [List.length_map]
      simp
    refine q_skip L7 g7.uh (evt_test (ev_op (ev_call (eva_cons (ev_var rfl) eva_nil) rc_lenLM) ev_int (rv_B0 (congrArg V.bl (decide_eq_false (by omega)))))) fun U8 H8 g8 L8 => ?_
    have g08 := (g06.trans g7).trans g8
    have hx8 : H8 x = some (.ins C dx []) := g08.hh _ _ hx (by simp)
    have ux8 : U8 x = none := g08.none_u (by rw [hx]; intro z; cases z) ux
    refine q_fld L8 g8.uh (ev_var rfl) (ev_var rfl) hx8 ux8 T.cl T.n1 (by simp) fun v1 U9 H9 g9 r9 ux9 hx9 L9 => ?_
    refine q_fld L9 g9.uh (ev_var rfl) (ev_var rfl) hx9 ux9 T.cl T.n2 (by show 1 < 1000; decide) fun v2 U10 H10 g10 r10 ux10 hx10 L10 => ?_
    refine q_fld L10 g10.uh (ev_tuple (eva_cons ((evn_sorted (eva_cons (ev_var rfl) eva_nil) (.inl rfl) (so_pairs ts)).ev.to (b := .d (.list ((sortP ts).map pairD))) (by rw [sortD_pairs])) eva_nil) (.inl rfl)) (ev_var rfl) hx10 ux10 T.cl T.n3 (by show 2 < 1000; decide) fun v3 U11 H11 g11 r11 ux11 hx11 L11 => ?_
    cases Td.toInt r9
    cases Td.toInt r10
    obtain ⟨t3, vs3, rfl, hp3, tp3⟩ := Td.toTup r11
    have hx11 : H11 x = some (.ins C dx (webF n m t3)) := hx11
    -- told from here
    have gA : Gr [x] U H U11 H11 := ((g08.any.trans g9).trans g10).trans g11
    have told : Same U11 (upd U11 x (.ins C dx (webF n m t3))) := same_upd ux11
    have S12 : Same (upd U11 x (.ins C dx (webF n m t3))) H11 := fun b o e => by
      by_cases hb : b = x
      · subst hb
        rw [upd_same] at e
        rw [← e]
        exact hx11
      · rw [upd_ne hb] at e
        exact g11.uh _ _ e
    have L12 := (L11.mono told).adr (i := 0) (d := .web n m (sortP ts)) rfl ⟨x, dx, t3, rfl, upd_same, (Td.tup hp3 tp3).mono told⟩
    have L12 : Lo C (upd U11 x (.ins C dx (webF n m t3))) σ5 [some (.web n m (sortP ts)), some (iD n), some (iD m), some (.d (.list (ts.map pairD))), some (.d (.list (ts.map pairD))), none] := L12
    have mem : ∀ t ∈ sortP ts, t ∈ ts := fun t h => (sortP_perm ts).mem_iff.mp h
    refine s_skip L12 S12 (evt_test (ev_op (c_pieces (ts := sortP ts) (eva_cons (ev_var rfl) (eva_cons (ev_var rfl) (eva_cons (ev_ties (ev_var rfl) T.cl T.n3) eva_nil))) (by omega) (by rw [(sortP_perm ts).length_eq]; exact few) (fun t h => hp.th t (mem t h)) (fun t h => hp.cl t (mem t h))) ev_int (rv_neI (b := false) (by rw [hp.one]; rfl)))) fun U13 H13 g13 L13 => ?_
    refine q U13 H13 (GrX.of gA hx11 ux11 g13) ?_
    exact Rp.mono (d := .web n m (sortP ts)) g13.uu ⟨x, dx, t3, rfl, upd_same, (Td.tup hp3 tp3).mono told⟩
abbrev s_turned_over : Stmt := topS 21
abbrev N_turned_over : List Str := ["web", "tie"]
theorem sc_turned_over : FnScope N_turned_over ["web"] (defScope s_turned_over) := ⟨rfl, rfl, rfl, by decide +kernel, rfl, by decide +kernel, by decide +kernel⟩
theorem ok_turned_over {f : Addr} {fd : FuncData} (F : Fun K "turned_over" "turned_over" s_turned_over f fd) (T : WebC K C) (F_Web : HasW P w K mg base C 3) :
    FnOk P w K mg base CX0 5 f fd ["web"] (prTurned.sp C) := by
  refine def_ok F sc_turned_over (fun _ => rfl) (by decide) fun cdv A outer s H E hr => ?_
  have nd := sc_turned_over.nd
  refine ⟨_, (pss_one (ps_ret (pe_web F_Web (hr.mono (by decide)) (by rfl) (pa_cons (fld_K (K := K) rfl (pv 0)) (pa_cons (fld_K (K := K) rfl (pv 0)) (pa_cons (pe_lc (own := [("tie", 1)]) (g := gName 1) rfl nd (pi_tupK (K := K) rfl (fld_K (K := K) rfl (pv 0))) (blkOk_by (own := [("tie", 1)]) (N := N_turned_over) (sc := defScope s_turned_over) (by decide +kernel)) (fun _ _ _ _ _ => (pg_name (i := 1) nd rfl (.inl rfl))) (fun _ _ _ _ _ => pts_nil) (fun _ _ _ _ _ => (pe_tup (pa_cons (pe_ix (ix_tupK (K := K)) (pv 1) pe_int (fun _ _ => rfl)) (pa_cons (pe_ix (ix_tupK (K := K)) (pv 1) pe_int (fun _ _ => rfl)) pa_nil))))) pa_nil)))))), ?_⟩
  intro y U σ Q S L hp q
  obtain ⟨n, m, ts⟩ := y
  have hp : WebIn m n (flipT ts) := hp
  have L : Lo C U σ [some (.web n m ts), none] := L
  have few : ts.length ≤ 12 := by have := hp.few; unfold flipT at this; rwa [List.length_map] at this
  refine s_ret L S (ev_web (n := m) (m := n) (ts := flipT ts) (eva_cons (ev_clubs (ev_var rfl) T.cl T.n2) (eva_cons (ev_things (ev_var rfl) T.cl T.n1) (eva_cons ((evn_lc (js := [1]) ts (fun t => .d (pairD t)) (fun t => pairD (t.2, t.1)) (evi_tupM pairD ts (ev_ties (ev_var rfl) T.cl T.n3)) (by omega) (by simp)
    (fun t ht => ⟨_, evg_name, ev_tup (ds := [nI t.2, nI t.1]) (eva_cons (ev_op (ev_var rfl) ev_int (rv_ixT (ds := [nI t.1, nI t.2]) (c := nI t.2) rfl)) (eva_cons (ev_op (ev_var rfl) ev_int (rv_ixT (ds := [nI t.1, nI t.2]) (c := nI t.1) rfl)) eva_nil)) (by simp)⟩)).ev.to ?_) eva_nil))) hp) fun v U1 H1 g1 r1 => q v _ U1 H1 g1 r1 rfl
  unfold flipT
  rw [List.map_map]
  rfl
abbrev s_thing_inward : Stmt := topS 36
abbrev N_thing_inward : List Str := ["web"]
theorem sc_thing_inward : FnScope N_thing_inward ["web"] (defScope s_thing_inward) := ⟨rfl, rfl, rfl, by decide +kernel, rfl, by decide +kernel, by decide +kernel⟩
theorem ok_thing_inward {f : Addr} {fd : FuncData} (F : Fun K "thing_inward" "thing_inward" s_thing_inward f fd) (F_inward_of : Has P w K mg base "inward_of" 7 ["web"] [] (prInwardOf.sp C)) (F_turned_over : Has P w K mg base "turned_over" 5 ["web"] [] (prTurned.sp C)) :
    FnOk P w K mg base CX0 8 f fd ["web"] (prThingInw.sp C) := by
  refine def_ok F sc_thing_inward (fun _ => rfl) (by decide) fun cdv A outer s H E hr => ?_
  have nd := sc_thing_inward.nd
  refine ⟨_, (pss_one (ps_ret (pe_fn F_inward_of (hr.mono (by decide)) (by rfl) (pa_cons (pe_fn F_turned_over (hr.mono (by decide)) (by rfl) (pa_cons (pv 0) pa_nil)) pa_nil)))), ?_⟩
  intro y U σ Q S L hp q
  obtain ⟨n, m, ts⟩ := y
  obtain ⟨h1, h2, h3⟩ : WebIn m n (flipT ts) ∧ WebOk m n (sortP (flipT ts)) ∧ shownRows m n (sortP (flipT ts)) ≠ [] := hp
  have L : Lo C U σ [some (.web n m ts)] := L
  exact s_ret L S (c_inwardOf (eva_cons (c_turned (eva_cons (ev_var rfl) eva_nil) h1) eva_nil) h2 h3) fun v U1 H1 g1 r1 => q v _ U1 H1 g1 r1 rfl
end
end Kx
end
section
set_option Elab.async false
set_option linter.all false
set_option maxRecDepth 100000
set_option maxHeartbeats 4000000
namespace Kx
open PySem PySem.Spec L2
open PyProof.Rows (envOfC)
/-- a load as data -/
def loadD (l : Load) : PyData := .tuple [nT l.1, nT l.2]
abbrev prNumRow : Prm (List Nat × Nat) := .fn (fun x => [.d (nL x.1), iD x.2]) (fun x => x.1.length = x.2 ∧ x.2 ≤ 1000) fun _ => bD true
abbrev prOneMore : Prm (Load × (Nat × Nat)) := .fn (fun x => [.d (loadD x.1), .d (pairD x.2)]) (fun x => x.1.1.length ≤ 100 ∧ x.1.2.length ≤ 100) fun x => .d (loadD (oneMore x.1 x.2))
abbrev prMany : Prm (Nat × Int) := .fn (fun x => [iD x.1, iD x.2]) (fun x => (x.1 : Int) ≤ x.2) fun x => iD x.1
abbrev prFree : Prm WebA := .fn (fun x => [webD x]) (fun x => 2 ≤ x.1 + x.2.1) fun x => iD (x.1 + x.2.1 - 2 : Nat)
abbrev prCount : Prm (WebA × Nat) := .fn (fun x => [webD x.1, iD x.2]) (fun x => x.2 ≤ 100 ∧ WebOk x.1.1 x.1.2.1 x.1.2.2 ∧ shownRows x.1.1 x.1.2.1 x.1.2.2 ≠ []) fun x => iD (loadCnt (inwardN x.1.1 x.1.2.1 x.1.2.2 (List.range x.1.2.1)) x.2 (x.1.1 + x.1.2.1 - 2))
section
variable {C : Addr} {ρ : Ro} {t : TA} {E : XK} {n m : Nat} {ts : List (Nat × Nat)}
theorem c_numRow (l : List Nat) (k : Nat) (h : EvA C t ρ [.d (nL l), iD k]) (h1 : l.length = k) (h2 : k ≤ 1000) : Ev C (tCall (prNumRow.sp C) [] E t) ρ (bD true) := ev_fn (args := prNumRow.args) (pre := prNumRow.pre) (l, k) h ⟨h1, h2⟩
theorem c_oneMore (l : Load) (p : Nat × Nat) (h : EvA C t ρ [.d (loadD l), .d (pairD p)]) (h1 : l.1.length ≤ 100) (h2 : l.2.length ≤ 100) : Ev C (tCall (prOneMore.sp C) [] E t) ρ (.d (loadD (oneMore l p))) := ev_fn (args := prOneMore.args) (pre := prOneMore.pre) (l, p) h ⟨h1, h2⟩
theorem c_many (k : Nat) (z : Int) (h : EvA C t ρ [iD k, iD z]) (h1 : (k : Int) ≤ z) : Ev C (tCall (prMany.sp C) [] E t) ρ (iD k) := ev_fn (args := prMany.args) (pre := prMany.pre) (k, z) h h1
theorem c_free (h : EvA C t ρ [.web n m ts]) (h1 : 2 ≤ n + m) : Ev C (tCall (prFree.sp C) [] E t) ρ (iD (n + m - 2 : Nat)) := ev_fn (args := prFree.args) (pre := prFree.pre) (n, m, ts) h h1
theorem c_count (k : Nat) (h : EvA C t ρ [.web n m ts, iD k]) (h1 : k ≤ 100) (h2 : WebOk n m ts) (h3 : shownRows n m ts ≠ []) : Ev C (tCall (prCount.sp C) [] E t) ρ (iD (loadCnt (inwardN n m ts (List.range m)) k (n + m - 2))) := ev_fn (args := prCount.args) (pre := prCount.pre) ((n, m, ts), k) h ⟨h1, h2, h3⟩
end
theorem numsF_mem {l : List Nat} : ∀ x ∈ numsF l, x ≤ l.length := fun x hx => by
  obtain ⟨k, _, rfl⟩ := List.mem_map.mp hx
  exact List.count_le_length
section
variable {P : Program} {w : World} {K : PySem.W.Frag} {mg : Str → Option Value} {base : Heap} {C : Addr}
abbrev s_is_number_row : Stmt := topS 38
abbrev N_is_number_row : List Str := ["row", "many", "number"]
theorem sc_is_number_row : FnScope N_is_number_row ["row", "many"] (defScope s_is_number_row) := ⟨rfl, rfl, rfl, by decide +kernel, rfl, by decide +kernel, by decide +kernel⟩
theorem ok_is_number_row {f : Addr} {fd : FuncData} (F : Fun K "is_number_row" "is_number_row" s_is_number_row f fd) (m_all : mg "all" = none) (m_len : mg "len" = none) (F_is_sequence : Has P w K mg base "is_sequence" 1 ["thing"] [] (prSeq.sp C)) (F_is_whole1 : Has P w K mg base "is_whole" 1 ["thing", "low", "high"] [.non] (prWhole.sp C)) :
    FnOk P w K mg base CX0 2 f fd ["row", "many"] (prNumRow.sp C) := by
  refine def_ok F sc_is_number_row (fun _ => rfl) (by decide) fun cdv A outer s H E hr => ?_
  have nd := sc_is_number_row.nd
  refine ⟨_, (pss_one (ps_ret (pe_and (pe_fn F_is_sequence (hr.mono (by decide)) (by rfl) (pa_cons (pv 0) pa_nil)) (pe_and (pe_cmpR op_eq (pe_callB (len_K (K := K)) (by rfl) m_len (by decide +kernel) (pa_cons (pv 0) pa_nil)) (pv 1) (nomark _)) (pe_one (pe_callB (all_K (K := K) rfl) (by rfl) m_all (by decide +kernel) (pa_cons (pe_lc (own := [("number", 2)]) (g := gName 2) rfl nd (pi_listK (K := K) rfl (pv 0)) (blkOk_by (own := [("number", 2)]) (N := N_is_number_row) (sc := defScope s_is_number_row) (by decide +kernel)) (fun _ _ _ _ _ => (pg_name (i := 2) nd rfl (.inl rfl))) (fun _ _ _ _ _ => pts_nil) (fun _ _ _ _ _ => (pe_fn F_is_whole1 (hr.mono (by decide)) (by rfl) (pa_cons (pv 2) (pa_cons pe_int pa_nil))))) pa_nil))))))), ?_⟩
  intro y U σ Q S L hp q
  obtain ⟨l, k⟩ := y
  obtain ⟨h1, h2⟩ : l.length = k ∧ k ≤ 1000 := hp
  have L : Lo C U σ [some (.d (nL l)), some (iD k), none] := L
  refine s_ret L S (ev_andV (p := true) (d := bD true) (c_seq true (l.map nI) (eva_cons (ev_var rfl) eva_nil)) (fun _ => ev_andV (p := true) (d := bD true) (ev_op (ev_call (eva_cons (ev_var rfl) eva_nil) rc_lenLM) (ev_var rfl) (rv_eqI (by rw [h1]; simp))) (fun _ => (ev_call (eva_cons
    (evn_lc (js := [2]) l (fun x => .d (nI x)) (fun x => .bool true) (evi_listM nI l (ev_var rfl)) (by omega) (by simp) (fun x hx => ⟨_, evg_name, (c_whole1 x (some 0) (eva_cons (ev_var rfl) (eva_cons ev_int eva_nil))).to ?_⟩)).ev eva_nil) ((?_ : RC C (rAll K) _ (bD true))))) (fun h => nomatch h)) (fun h => nomatch h)) fun v U1 H1 g1 r1 => q v _ U1 H1 g1 r1 rfl
  · show bD (decide ((0 : Int) ≤ x) && true) = bD true
    rw [decide_eq_true (by omega)]
    rfl
  · have h := rc_all (C := C) (K := K) (bs := l.map fun _ => true)
    rw [List.map_map] at h
    have e : (l.map fun _ => true).all id = true := List.all_eq_true.mpr fun x hx => by
      obtain ⟨_, _, rfl⟩ := List.mem_map.mp hx
      rfl
    rw [e] at h
    exact h
abbrev s_one_more : Stmt := topS 39
abbrev N_one_more : List Str := ["load", "tie", "things", "thing", "number", "club"]
theorem sc_one_more : FnScope N_one_more ["load", "tie"] (defScope s_one_more) := ⟨rfl, rfl, rfl, by decide +kernel, rfl, by decide +kernel, by decide +kernel⟩
theorem ok_one_more {f : Addr} {fd : FuncData} (F : Fun K "one_more" "one_more" s_one_more f fd) (m_enumerate : mg "enumerate" = none) (m_int : mg "int" = none) (m_tuple : mg "tuple" = none) :
    FnOk P w K mg base CX0 1 f fd ["load", "tie"] (prOneMore.sp C) := by
  refine def_ok F sc_one_more (fun _ => rfl) (by decide) fun cdv A outer s H E hr => ?_
  have nd := sc_one_more.nd
  refine ⟨_, (pss_cons (ps_set (i := 2) nd rfl (.inl rfl) (pe_callTy (tuple_K (K := K)) (by rfl) m_tuple (by decide +kernel) (pa_cons (pe_lc (own := [("thing", 3), ("number", 4)]) (g := gTup K 2 (gCons (gName 3) (gCons (gName 4) gNil))) rfl nd (pi_enumT (K := K) (by rfl) m_enumerate (pa_cons (pe_ix (ix_tupK (K := K)) (pv 0) pe_int (fun _ _ => rfl)) pa_nil)) (blkOk_by (own := [("thing", 3), ("number", 4)]) (N := N_one_more) (sc := defScope s_one_more) (by decide +kernel)) (fun _ _ _ _ _ => (pg_tup rfl (pgs_cons (pg_name (i := 3) nd rfl (.inl rfl)) (pgs_cons (pg_name (i := 4) nd rfl (.inl rfl)) pgs_nil)))) (fun _ _ _ _ _ => pts_nil) (fun _ _ _ _ _ => (pe_op op_add (pv 4) (pe_callTy call_int1 (by rfl) m_int (by decide +kernel) (pa_cons (pe_cmpR op_eq (pv 3) (pe_ix (ix_tupK (K := K)) (pv 1) pe_int (fun _ _ => rfl)) (nomark _)) pa_nil))))) pa_nil)))
  (pss_one (ps_ret (pe_tup (pa_cons (pv 2) (pa_cons (pe_callTy (tuple_K (K := K)) (by rfl) m_tuple (by decide +kernel) (pa_cons (pe_lc (own := [("club", 5), ("number", 4)]) (g := gTup K 2 (gCons (gName 5) (gCons (gName 4) gNil))) rfl nd (pi_enumT (K := K) (by rfl) m_enumerate (pa_cons (pe_ix (ix_tupK (K := K)) (pv 0) pe_int (fun _ _ => rfl)) pa_nil)) (blkOk_by (own := [("club", 5), ("number", 4)]) (N := N_one_more) (sc := defScope s_one_more) (by decide +kernel)) (fun _ _ _ _ _ => (pg_tup rfl (pgs_cons (pg_name (i := 5) nd rfl (.inl rfl)) (pgs_cons (pg_name (i := 4) nd rfl (.inl rfl)) pgs_nil)))) (fun _ _ _ _ _ => pts_nil) (fun _ _ _ _ _ => (pe_op op_add (pv 4) (pe_callTy call_int1 (by rfl) m_int (by decide +kernel) (pa_cons (pe_cmpR op_eq (pv 5) (pe_ix (ix_tupK (K := K)) (pv 1) pe_int (fun _ _ => rfl)) (nomark _)) pa_nil))))) pa_nil)) pa_nil)))))), ?_⟩
  intro y U σ Q S L hp q
  obtain ⟨⟨a, b⟩, ⟨i, j⟩⟩ := y
  obtain ⟨h1, h2⟩ : a.length ≤ 100 ∧ b.length ≤ 100 := hp
  have L : Lo C U σ [some (.d (loadD (a, b))), some (.d (pairD (i, j))), none, none, none, none] := L
  have key : ∀ (l : List Nat) (i : Nat), (List.range l.length).map (fun (k : Nat) => nI (l.getD k 0 + if k = i then 1 else 0)) = (incN l i).map nI := fun l i => by rw [← incN_map, List.map_map]; rfl
  have one : ∀ (k x i : Nat), (DV.d (.int ((x : Int) + if decide (k = i) then 1 else 0))) = .d (nI (x + if k = i then 1 else 0)) := fun k x i => by
    by_cases e : k = i
    · rw [if_pos (decide_eq_true e), if_pos e]; rfl
    · rw [if_neg (by rw [decide_eq_false e]; decide), if_neg e]; exact congrArg (fun z => DV.d (.int z)) (by omega)
  refine q_asg L S (ev_tuple (eva_cons (evn_lc (js := [3, 4]) (List.range a.length) (fun k => .d (.tuple [nI k, nI (a.getD k 0)])) (fun (k : Nat) => nI (a.getD k 0 + if k = i then 1 else 0)) (evi_enumN (eva_cons (ev_op (ev_var rfl) ev_int (rv_ixT (ds := [nT a, nT b]) (c := nT a) rfl)) eva_nil)) (by rw [List.length_range]; omega) (by simp)
    (fun k hk => ⟨_, evg_pair, (ev_op (ev_var rfl) (ev_intB (b := decide (k = i)) (ev_op (ev_var rfl) (ev_op (ev_var rfl) ev_int (rv_ixT (ds := [nI i, nI j]) (c := nI i) rfl)) (rv_eqI (decide_eq_decide.mpr (by omega))))) (rv_I0 rfl)).to (one k (a.getD k 0) i)⟩)).ev eva_nil) (.inl rfl)) fun σ1 U1 H1 g1 L1 => ?_
  rw [key] at L1
  refine s_ret L1 g1.uh (ev_tup (ds := [nT (incN a i), nT (incN b j)]) (eva_cons (ev_var rfl) (eva_cons ((ev_tuple (eva_cons (evn_lc (js := [5, 4]) (List.range b.length) (fun k => .d (.tuple [nI k, nI (b.getD k 0)])) (fun (k : Nat) => nI (b.getD k 0 + if k = j then 1 else 0)) (evi_enumN (eva_cons (ev_op (ev_var rfl) ev_int (rv_ixT (ds := [nT a, nT b]) (c := nT b) rfl)) eva_nil)) (by rw [List.length_range]; omega) (by simp)
    (fun k hk => ⟨_, evg_pair, (ev_op (ev_var rfl) (ev_intB (b := decide (k = j)) (ev_op (ev_var rfl) (ev_op (ev_var rfl) ev_int (rv_ixT (ds := [nI i, nI j]) (c := nI j) rfl)) (rv_eqI (decide_eq_decide.mpr (by omega))))) (rv_I0 rfl)).to (one k (b.getD k 0) j)⟩)).ev eva_nil) (.inl rfl)).to (by rw [key]; rfl)) eva_nil)) (by simp)) fun v U2 H2 g2 r2 => q v _ U2 H2 (g1.trans g2) r2 rfl
abbrev s_check_many : Stmt := topS 40
abbrev N_check_many : List Str := ["many", "most"]
theorem sc_check_many : FnScope N_check_many ["many", "most"] (defScope s_check_many) := ⟨rfl, rfl, rfl, by decide +kernel, rfl, by decide +kernel, by decide +kernel⟩
theorem ok_check_many {f : Addr} {fd : FuncData} (F : Fun K "check_many" "check_many" s_check_many f fd) (F_is_whole : Has P w K mg base "is_whole" 1 ["thing", "low", "high"] [] (prWhole.sp C)) :
    FnOk P w K mg base CX0 2 f fd ["many", "most"] (prMany.sp C) := by
  refine def_ok F sc_check_many (fun _ => rfl) (by decide) fun cdv A outer s H E hr => ?_
  have nd := sc_check_many.nd
  refine ⟨_, (pss_cons (ps_if (pt_not (pt_val (pe_fn F_is_whole (hr.mono (by decide)) (by rfl) (pa_cons (pv 0) (pa_cons pe_int (pa_cons (pv 1) pa_nil)))))) (pss_one ps_never) pss_nil)
  (pss_one (ps_ret (pv 0)))), ?_⟩
  intro y U σ Q S L hp q
  obtain ⟨k, z⟩ := y
  have hp : (k : Int) ≤ z := hp
  have L : Lo C U σ [some (iD k), some (iD z)] := L
  refine q_skip L S ((evt_not (evt_B (c_whole k (some 0) (some z) (eva_cons (ev_var rfl) (eva_cons ev_int (eva_cons (ev_var rfl) eva_nil)))))).to (inb_yes (by omega) hp)) fun U1 H1 g1 L1 => ?_
  exact s_ret L1 g1.uh (ev_var rfl) fun v U2 H2 g2 r2 => q v _ U2 H2 (g1.trans g2) r2 rfl
abbrev s_free_size : Stmt := topS 42
abbrev N_free_size : List Str := ["web"]
theorem sc_free_size : FnScope N_free_size ["web"] (defScope s_free_size) := ⟨rfl, rfl, rfl, by decide +kernel, rfl, by decide +kernel, by decide +kernel⟩
theorem ok_free_size {f : Addr} {fd : FuncData} (F : Fun K "free_size" "free_size" s_free_size f fd) (T : WebC K C) :
    FnOk P w K mg base CX0 1 f fd ["web"] (prFree.sp C) := by
  refine def_ok F sc_free_size (fun _ => rfl) (by decide) fun cdv A outer s H E hr => ?_
  have nd := sc_free_size.nd
  refine ⟨_, (pss_one (ps_ret (pe_op op_sub (pe_op op_add (fld_K (K := K) rfl (pv 0)) (fld_K (K := K) rfl (pv 0))) pe_int))), ?_⟩
  intro y U σ Q S L hp q
  obtain ⟨n, m, ts⟩ := y
  have hp : 2 ≤ n + m := hp
  have L : Lo C U σ [some (.web n m ts)] := L
  exact s_ret L S ((ev_op (ev_op (ev_things (ev_var rfl) T.cl T.n1) (ev_clubs (ev_var rfl) T.cl T.n2) (rv_I0 rfl)) ev_int (rv_I0 rfl)).to (b := iD (n + m - 2 : Nat)) (congrArg iD (by omega))) fun v U1 H1 g1 r1 => q v _ U1 H1 g1 r1 rfl
abbrev s_load_count : Stmt := topS 43
abbrev N_load_count : List Str := ["web", "many", "size", "free", "k", "number"]
theorem sc_load_count : FnScope N_load_count ["web", "many"] (defScope s_load_count) := ⟨rfl, rfl, rfl, by decide +kernel, rfl, by decide +kernel, by decide +kernel⟩
theorem ok_load_count {f : Addr} {fd : FuncData} (F : Fun K "load_count" "load_count" s_load_count f fd) (m_enumerate : mg "enumerate" = none) (m_sum : mg "sum" = none) (F_check_many : Has P w K mg base "check_many" 2 ["many", "most"] [] (prMany.sp C)) (F_choose_count : Has P w K mg base "choose_count" 1 ["top", "many"] [] (prChoose.sp C)) (F_free_size : Has P w K mg base "free_size" 1 ["web"] [] (prFree.sp C)) (F_inward_of : Has P w K mg base "inward_of" 7 ["web"] [] (prInwardOf.sp C)) :
    FnOk P w K mg base CX0 8 f fd ["web", "many"] (prCount.sp C) := by
  refine def_ok F sc_load_count (fun _ => rfl) (by decide) fun cdv A outer s H E hr => ?_
  have nd := sc_load_count.nd
  refine ⟨_, (pss_cons (ps_set (i := 2) nd rfl (.inr rfl) (pe_fn F_check_many (hr.mono (by decide)) (by rfl) (pa_cons (pv 1) (pa_cons (pe_op op_pow pe_int pe_int) pa_nil))))
  (pss_cons (ps_set (i := 3) nd rfl (.inr rfl) (pe_fn F_free_size (hr.mono (by decide)) (by rfl) (pa_cons (pv 0) pa_nil)))
  (pss_one (ps_ret (pe_callB (sum_K (K := K) rfl) (by rfl) m_sum (by decide +kernel) (pa_cons (pe_lc (own := [("k", 4), ("number", 5)]) (g := gTup K 2 (gCons (gName 4) (gCons (gName 5) gNil))) rfl nd (pi_enumT (K := K) (by rfl) m_enumerate (pa_cons (pe_fn F_inward_of (hr.mono (by decide)) (by rfl) (pa_cons (pv 0) pa_nil)) pa_nil)) (blkOk_by (own := [("k", 4), ("number", 5)]) (N := N_load_count) (sc := defScope s_load_count) (by decide +kernel)) (fun _ _ _ _ _ => (pg_tup rfl (pgs_cons (pg_name (i := 4) nd rfl (.inl rfl)) (pgs_cons (pg_name (i := 5) nd rfl (.inl rfl)) pgs_nil)))) (fun _ _ _ _ _ => pts_nil) (fun _ _ _ _ _ => (pe_op op_mul (pv 5) (pe_fn F_choose_count (hr.mono (by decide)) (by rfl) (pa_cons (pe_op op_sub (pe_op op_add (pv 2) (pv 3)) (pv 4)) (pa_cons (pv 3) pa_nil)))))) pa_nil)))))), ?_⟩
  intro y U σ Q S L hp q
  obtain ⟨⟨n, m, ts⟩, k⟩ := y
  obtain ⟨h1, h2, h3⟩ : k ≤ 100 ∧ WebOk n m ts ∧ shownRows n m ts ≠ [] := hp
  have L : Lo C U σ [some (.web n m ts), some (iD k), none, none, none, none] := L
  have b1 := h2.n1
  have b2 := h2.n4
  have b3 := h2.m1
  have b4 := h2.m4
  generalize hN : inwardN n m ts (List.range m) = N at *
  have few : ∀ x ∈ N, x ≤ 2401 := fun x hx => by
    rw [← hN] at hx
    unfold inwardN at hx
    have := numsF_mem x hx
    rw [List.length_map] at this
    have := shownRows_few h2
    omega
  have lenN : N.length ≤ 100 := by
    rw [← hN]
    unfold inwardN numsF
    rw [List.length_map, List.length_range]
    have h : ∀ x ∈ (shownRows n m ts).map (fun r => (busyF ((shownRows n m ts).map asI) (asI r) (List.range m)).length), x ≤ 4 := fun x hx => by
      obtain ⟨r, _, rfl⟩ := List.mem_map.mp hx
      have := busyF_len ((shownRows n m ts).map asI) (asI r) (List.range m)
      rw [List.length_range] at this
      omega
    have := h _ (foldr_max_mem (by simpa using h3))
    omega
  refine q_asg L S (c_many k (10 ^ 6) (eva_cons (ev_var rfl) (eva_cons (ev_op ev_int ev_int (rv_I ⟨by omega, by omega, by decide⟩ rfl)) eva_nil)) (by omega)) fun σ1 U1 H1 g1 L1 => ?_
  refine q_asg L1 g1.uh (c_free (eva_cons (ev_var rfl) eva_nil) (by omega)) fun σ2 U2 H2 g2 L2 => ?_
  refine s_ret L2 g2.uh (ev_call (eva_cons ((evn_lc (js := [4, 5]) (List.range N.length) (fun i => .d (.tuple [nI i, nI (N.getD i 0)])) (fun (i : Nat) => PyData.int ((N.getD i 0 : Int) * chooseI ((k : Int) + (n + m - 2 : Nat) - i) (n + m - 2))) (evi_enumN (eva_cons ((c_inwardOf (eva_cons (ev_var rfl) eva_nil) h2 h3).to (by rw [hN])) eva_nil)) (by rw [List.length_range]; omega) (by simp)
    (fun i hi => ⟨_, evg_pair, (ev_op (ev_var rfl) (c_choose ((k : Int) + (n + m - 2 : Nat) - i) (n + m - 2) (eva_cons (ev_op (ev_op (ev_var rfl) (ev_var rfl) (rv_I0 rfl)) (ev_var rfl) (rv_I0 rfl)) (eva_cons (ev_var rfl) eva_nil)) (by have := List.mem_range.mp hi; omega) (by have := List.mem_range.mp hi; omega) (by omega)) (rv_I (.inl (by have := few _ (List.mem_of_getElem? (getD_at (d := 0) (List.mem_range.mp hi))); constructor <;> omega)) rfl))⟩)).ev.to ?_) eva_nil) (rc_sum (ns := (List.range N.length).map fun (i : Nat) => (N.getD i 0 : Int) * chooseI ((k : Int) + (n + m - 2 : Nat) - i) (n + m - 2)))) fun v U3 H3 g3 r3 => q v _ U3 H3 ((g1.trans g2).trans g3) r3 ?_
  · show DV.d (.list _) = DV.d (intsL _)
    unfold intsL
    rw [List.map_map]
    rfl
  · show iD _ = iD (loadCnt (inwardN n m ts (List.range m)) k (n + m - 2))
    rw [hN]
    rfl
end
end Kx
end
section
set_option Elab.async false
set_option linter.all false
set_option maxRecDepth 100000
set_option maxHeartbeats 4000000
namespace Kx
open PySem PySem.Spec L2
open PyProof.Rows (envOfC)
abbrev prFrom : Prm (WebA × List Nat) := .fn (fun x => [webD x.1, .d (nL x.2)]) (fun x => WebOk x.1.1 x.1.2.1 x.1.2.2 ∧ x.2.length = min x.1.1 x.1.2.1 ∧ ∀ k ∈ x.2, k ≤ 100000) fun x => .d (intsD (fromN (x.1.1 + x.1.2.1 - 1) x.2))
section
variable {C : Addr} {ρ : Ro} {t : TA} {E : XK} {n m : Nat} {ts : List (Nat × Nat)}
theorem c_from (ns : List Nat) (h : EvA C t ρ [.web n m ts, .d (nL ns)]) (h1 : WebOk n m ts) (h2 : ns.length = min n m) (h3 : ∀ k ∈ ns, k ≤ 100000) : Ev C (tCall (prFrom.sp C) [] E t) ρ (.d (intsD (fromN (n + m - 1) ns))) := ev_fn (args := prFrom.args) (pre := prFrom.pre) ((n, m, ts), ns) h ⟨h1, h2, h3⟩
end
theorem pick_map {α β : Type} (f : α → β) (l : List α) (lo : Option Int) (k : Int) : pickX (l.map f) lo k = (pickX l lo k).map f := by
  unfold pickX
  rw [List.length_map, List.map_filterMap]
  refine congrArg (fun g => List.filterMap g _) (funext fun i => ?_)
  rw [List.getElem?_map]
def isZ : PyData → Bool
  | .int z => decide (z = 0)
  | _ => false
theorem few_step {k : Nat} {lo : Option Int} (hk : k ≤ 3) (hlo : lo = none ∨ lo = some 1) : (stepIx (k + 1) lo 2).length ≤ 100000 := by
  have h : k = 0 ∨ k = 1 ∨ k = 2 ∨ k = 3 := by omega
  rcases h with rfl | rfl | rfl | rfl <;> rcases hlo with rfl | rfl <;> decide +kernel
theorem alt_pick (f : Nat → Int) (k : Nat) (hk : k ≤ 3) : (pickX ((List.range (k + 1)).map f) none 2).sum - (pickX ((List.range (k + 1)).map f) (some 1) 2).sum = (List.range (k + 1)).foldl (fun t j => if j % 2 = 0 then t + f j else t - f j) 0 := by
  have h : k = 0 ∨ k = 1 ∨ k = 2 ∨ k = 3 := by omega
  rcases h with rfl | rfl | rfl | rfl
  · show ((stepIx 1 none 2).filterMap ([f 0][·]?)).sum - ((stepIx 1 (some 1) 2).filterMap ([f 0][·]?)).sum = _
    rw [show stepIx 1 none 2 = [0] by decide +kernel, show stepIx 1 (some 1) 2 = [] by decide +kernel]
    simp [List.range_succ]
  · show ((stepIx 2 none 2).filterMap ([f 0, f 1][·]?)).sum - ((stepIx 2 (some 1) 2).filterMap ([f 0, f 1][·]?)).sum = _
    rw [show stepIx 2 none 2 = [0] by decide +kernel, show stepIx 2 (some 1) 2 = [1] by decide +kernel]
    simp [List.range_succ]
  · show ((stepIx 3 none 2).filterMap ([f 0, f 1, f 2][·]?)).sum - ((stepIx 3 (some 1) 2).filterMap ([f 0, f 1, f 2][·]?)).sum = _
    rw [show stepIx 3 none 2 = [0, 2] by decide +kernel, show stepIx 3 (some 1) 2 = [1] by decide +kernel]
    simp [List.range_succ]
    omega
  · show ((stepIx 4 none 2).filterMap ([f 0, f 1, f 2, f 3][·]?)).sum - ((stepIx 4 (some 1) 2).filterMap ([f 0, f 1, f 2, f 3][·]?)).sum = _
    rw [show stepIx 4 none 2 = [0, 2] by decide +kernel, show stepIx 4 (some 1) 2 = [1, 3] by decide +kernel]
    simp [List.range_succ]
    omega
section
variable {P : Program} {w : World} {K : PySem.W.Frag} {mg : Str → Option Value} {base : Heap} {C : Addr}
abbrev s_inward_from : Stmt := topS 44
abbrev N_inward_from : List Str := ["web", "numbers", "above", "told", "k", "parts", "j"]
theorem sc_inward_from : FnScope N_inward_from ["web", "numbers"] (defScope s_inward_from) := ⟨rfl, rfl, rfl, by decide +kernel, rfl, by decide +kernel, by decide +kernel⟩
theorem ok_inward_from {f : Addr} {fd : FuncData} (F : Fun K "inward_from" "inward_from" s_inward_from f fd) (T : WebC K C) (m_len : mg "len" = none) (m_min : mg "min" = none) (m_range : mg "range" = none) (m_sum : mg "sum" = none) (m_tuple : mg "tuple" = none) (F_choose_count : Has P w K mg base "choose_count" 1 ["top", "many"] [] (prChoose.sp C)) (F_free_size : Has P w K mg base "free_size" 1 ["web"] [] (prFree.sp C)) (F_is_number_row : Has P w K mg base "is_number_row" 2 ["row", "many"] [] (prNumRow.sp C)) :
    FnOk P w K mg base CX0 3 f fd ["web", "numbers"] (prFrom.sp C) := by
  refine def_ok F sc_inward_from (fun _ => rfl) (by decide) fun cdv A outer s H E hr => ?_
  have nd := sc_inward_from.nd
  refine ⟨_, (pss_cons (ps_if (pt_not (pt_val (pe_fn F_is_number_row (hr.mono (by decide)) (by rfl) (pa_cons (pv 1) (pa_cons (pe_callB (call_min2 rfl) (by rfl) m_min (by decide +kernel) (pa_cons (fld_K (K := K) rfl (pv 0)) (pa_cons (fld_K (K := K) rfl (pv 0)) pa_nil))) pa_nil))))) (pss_one ps_never) pss_nil)
  (pss_cons (ps_set (i := 2) nd rfl (.inr rfl) (pe_op op_add (pe_fn F_free_size (hr.mono (by decide)) (by rfl) (pa_cons (pv 0) pa_nil)) pe_int))
  (pss_cons (ps_set (i := 3) nd rfl (.inl rfl) (pe_lst pa_nil))
  (pss_cons (ps_for PassesOwn.never rfl (pi_range1 (by rfl) m_range (pa_cons (pe_callB (len_K (K := K)) (by rfl) m_len (by decide +kernel) (pa_cons (pv 1) pa_nil)) pa_nil)) (pg_name (i := 4) nd rfl (.inr rfl)) (pss_cons (ps_setLc (i := 5) (own := [("j", 6)]) (g := gName 6) rfl nd rfl rfl (sw_true rfl rfl rfl (by decide +kernel)) (pi_range1 (by rfl) m_range (pa_cons (pe_op op_add (pv 4) pe_int) pa_nil)) (blkOk_by (own := [("j", 6)]) (N := N_inward_from) (sc := defScope s_inward_from) (by decide +kernel)) (fun _ _ _ _ _ => (pg_name (i := 6) nd rfl (.inl rfl))) (fun _ _ _ _ _ => pts_nil) (fun _ _ _ _ _ => (pe_op op_mul (pe_fn F_choose_count (hr.mono (by decide)) (by rfl) (pa_cons (pv 2) (pa_cons (pv 6) pa_nil))) (pe_ix (ix_listK (K := K)) (pv 1) (pe_op op_sub (pv 4) (pv 6)) (fun _ _ => rfl)))))
  (pss_one (ps_expr (pe_bm PySem.F.plainAttrs_list PySem.F.slot_list_append PySem.F.type_list_append mt_append (pv 3) (pa_cons (pe_op op_sub (pe_callB (sum_K (K := K) rfl) (by rfl) m_sum (by decide +kernel) (pa_cons (pe_sl2 (K := K) (pv 5) po_none (po_some pe_int)) pa_nil)) (pe_callB (sum_K (K := K) rfl) (by rfl) m_sum (by decide +kernel) (pa_cons (pe_sl2 (K := K) (pv 5) (po_some pe_int) (po_some pe_int)) pa_nil))) pa_nil))))))
  (pss_cons (ps_while PassesOwn.never (PW.pt (pw_and (pt_cmpR op_gt (pe_callB (len_K (K := K)) (by rfl) m_len (by decide +kernel) (pa_cons (pv 3) pa_nil)) pe_int (nomark _)) (pw_and1 (pt_cmpR op_eq (pe_ix (ix_listK (K := K)) (pv 3) (pe_un un_neg pe_int) (fun _ _ => rfl)) pe_int (nomark _))))) (pss_one (ps_expr (pe_bm0 PySem.F.plainAttrs_list PySem.F.slot_list_pop PySem.F.type_list_pop mt_pop (pv 3)))))
  (pss_one (ps_ret (pe_callTy (tuple_K (K := K)) (by rfl) m_tuple (by decide +kernel) (pa_cons (pv 3) pa_nil))))))))), ?_⟩
  intro y U σ Q S L hp q
  obtain ⟨⟨n, m, ts⟩, ns⟩ := y
  obtain ⟨h1, h2, h3⟩ : WebOk n m ts ∧ ns.length = min n m ∧ ∀ k ∈ ns, k ≤ 100000 := hp
  have L : Lo C U σ [some (.web n m ts), some (.d (nL ns)), none, none, none, none, none] := L
  have b1 := h1.n1
  have b2 := h1.n4
  have b3 := h1.m1
  have b4 := h1.m4
  have lenN : 1 ≤ ns.length ∧ ns.length ≤ 4 := by rw [h2]; omega
  refine q_skip L S ((evt_not (evt_B (c_numRow ns (min n m) (eva_cons (ev_var rfl) (eva_cons ((ev_call (eva_cons (ev_things (ev_var rfl) T.cl T.n1) (eva_cons (ev_clubs (ev_var rfl) T.cl T.n2) eva_nil)) (ds := [iD n, iD m]) (d := iD (min n m : Nat)) ?_)) eva_nil)) h2 (by omega)))).to rfl) fun U1 H1 g1 L1 => ?_
  · intro U H xs S r Q q
    cases r with
    | cons a r =>
      cases r with
      | cons b r =>
        cases r
        cases Td.toInt a
        cases Td.toInt b
        refine ⟨n, m, rfl, ?_⟩
        have e : (if (m : Int) < n then (m : Int) else n) = (min n m : Nat) := by split <;> omega
        rw [e]
        exact q _ U H (.refl S) (.int _)
  refine q_asg L1 g1.uh ((ev_op (c_free (eva_cons (ev_var rfl) eva_nil) (by omega)) ev_int (rv_I0 rfl)).to (b := iD (n + m - 1 : Nat)) (congrArg iD (by omega))) fun σ2 U2 H2 g2 L2 => ?_
  refine q_asgN L2 g2.uh (evn_lst (ds := []) eva_nil (by simp)) fun p σ3 U3 H3 g3 hp3 m3 L3 => ?_
  let st : Nat → List PyData := fun i => ((List.range i).map (altSum (n + m - 1) ns)).map PyData.int
  refine q_for (List.range ns.length) (fun (j : Nat) => iD j) (fun i => [some (.web n m ts), some (.d (nL ns)), some (iD (n + m - 1 : Nat)), some (.adr p), none, none, none]) (fun i U' H' => Gr [p] U2 H2 U' H' ∧ ML U' H' p (st i)) L3 g3.uh
    (evi_rngN (eva_cons (ev_call (eva_cons (ev_var rfl) eva_nil) rc_lenLM) eva_nil) (by omega)) (.eq (.eq (.eq (.eq (.no (.no (.no .nil))))))) (fun _ _ g => ⟨(g3.trans g).any, m3.step g (by simp)⟩) ?_ ?_
  · intro i a Ub U4 H4 U5 H5 ea ⟨g4, m4⟩ _ sb g5
    obtain ⟨hi, rfl⟩ := rng_at ea
    have ixj : ∀ j ∈ List.range (a + 1), atI (ns.map nI) ((a : Int) - j) = some (nI (ns.getD (a - j) 0)) := fun j hj => by
      have hj := List.mem_range.mp hj
      have e : ((a : Int) - j) = ((a - j : Nat) : Int) := by omega
      rw [e]
      exact at_map (getD_at (by omega))
    have bdj : ∀ j ∈ List.range (a + 1), -2 ^ 64 < (ns.getD (a - j) 0 : Int) ∧ (ns.getD (a - j) 0 : Int) < 2 ^ 64 := fun j hj => by
      have hj := List.mem_range.mp hj
      have := h3 _ (List.mem_of_getElem? (getD_at (d := 0) (show a - j < ns.length by omega)))
      constructor <;> omega
    refine ⟨_, _, evg_name, fun σ5 L5 => ?_⟩
    refine q_asg L5 g5.uh ((evn_lc (js := [6]) (List.range (a + 1)) (fun (j : Nat) => iD j) (fun j => PyData.int (altPart (n + m - 1) ns a j)) (evi_rngN (eva_cons ((ev_op (ev_var rfl) ev_int (rv_I0 rfl)).to (b := iD (a + 1 : Nat)) rfl) eva_nil) (by omega)) (by rw [List.length_range]; omega) (by simp)
      (fun j hj => ⟨_, evg_name, (ev_op (c_choose (n + m - 1 : Nat) j (eva_cons (ev_var rfl) (eva_cons (ev_var rfl) eva_nil)) (by omega) (by omega) (by have := List.mem_range.mp hj; omega)) ((ev_op (ev_var rfl) (ev_op (ev_var rfl) (ev_var rfl) (rv_I0 rfl)) (rv_ixL (c := nI (ns.getD (a - j) 0)) (ixj j hj)))) (rv_I (.inr (bdj j hj)) rfl))⟩)).ev.to (b := .d (intsL ((List.range (a + 1)).map (altPart (n + m - 1) ns a)))) (by unfold intsL; rw [List.map_map]; rfl)) fun σ6 U6 H6 g6 L6 => ?_
    · have pk : ∀ lo, pickX (((List.range (a + 1)).map (altPart (n + m - 1) ns a)).map PyData.int) lo 2 = (pickX ((List.range (a + 1)).map (altPart (n + m - 1) ns a)) lo 2).map PyData.int := fun lo => pick_map _ _ _ _
      have few : ∀ lo, lo = none ∨ lo = some 1 → (pickX (((List.range (a + 1)).map (altPart (n + m - 1) ns a)).map PyData.int) lo 2).length ≤ 100000 := fun lo hlo => by
        unfold pickX
        exact Nat.le_trans (List.length_filterMap_le _ _) (by rw [List.length_map, List.length_map, List.length_range]; exact few_step (by omega) hlo)
      refine s_app L6 g6.uh (ev_var rfl) ((ev_op (ev_call (eva_cons ((evn_sl2 (ev_var rfl) evo_none (evo_some ev_int) (by decide) (few none (.inl rfl))).ev.to (b := .d (intsL (pickX ((List.range (a + 1)).map (altPart (n + m - 1) ns a)) none 2))) (by rw [pk]; rfl)) eva_nil) rc_sum)
        (ev_call (eva_cons ((evn_sl2 (ev_var rfl) (evo_some ev_int) (evo_some ev_int) (by decide) (few (some 1) (.inr rfl))).ev.to (b := .d (intsL (pickX ((List.range (a + 1)).map (altPart (n + m - 1) ns a)) (some 1) 2))) (by rw [pk]; rfl)) eva_nil) rc_sum) (rv_I0 rfl)).to (b := .d (.int (altSum (n + m - 1) ns a))) (congrArg iD (alt_pick _ a (by omega))))
        (m4.step (g5.trans g6) (by simp)) (by show (((List.range a).map _).map _).length < _; rw [List.length_map, List.length_map, List.length_range]; omega) fun U7 H7 g7 m7 L7 => ?_
      refine nx_of (Nxt.of (M := [p]) sb (g6.any.trans g7) (L7.sub (.eq (.eq (.eq (.eq (.no (.no (.no .nil)))))))) ⟨((g4.trans g5.any).trans g6.any).trans g7, ?_⟩)
      have e : st (a + 1) = st a ++ [PyData.int (altSum (n + m - 1) ns a)] := by
        show ((List.range (a + 1)).map _).map _ = _
        rw [List.range_succ, List.map_append, List.map_append]
        rfl
      rw [e]
      exact m7
  · intro U4 H4 σ4 L4 s1 s2 ⟨g4, m4⟩
    have el : st (List.range ns.length).length = (backI (n + m - 1) ns).map PyData.int := by rw [List.length_range]; rfl
    rw [el] at m4
    generalize hB : backI (n + m - 1) ns = B at *
    have lB : B.length = ns.length := by rw [← hB]; unfold backI; rw [List.length_map, List.length_range]
    have L4 : Lo C U4 σ4 [some (.web n m ts), some (.d (nL ns)), some (iD (n + m - 1 : Nat)), some (.adr p), none, none, none] := L4
    refine q_whileP 3 (fun es => decide (1 < es.length) && isZ (es.getD (es.length - 1) .none)) (fun es => es.length) (fun es => es.dropLast) L4 s2 m4 rfl (fun es => ∃ r, 1 ≤ r ∧ r ≤ B.length ∧ es = (B.take r).map PyData.int ∧ lastIx B r = lastIx B B.length)
      ⟨B.length, by omega, Nat.le_refl _, by rw [List.take_length], rfl⟩ ?_ ?_ ?_ ?_
    · rintro es ⟨r, r1, r2, rfl, r3⟩
      have len : ((B.take r).map PyData.int).length = r := by rw [List.length_map, List.length_take]; omega
      have last : ((B.take r).map PyData.int)[r - 1]? = some (.int (B.getD (r - 1) 0)) := by
        rw [List.getElem?_map, List.getElem?_take, if_pos (by omega), getD_at (d := 0) (by omega)]
        rfl
      refine evt_and (evt_test (ev_op (ev_call (eva_cons (ev_var rfl) eva_nil) rc_lenL) ev_int (rv_B0 (congrArg V.bl (decide_eq_decide.mpr (by omega)))))) fun _ => evt_test (ev_op (ev_op (ev_var rfl) (ev_un ev_int ru_neg) (rv_ixL (c := .int (B.getD (r - 1) 0)) ?_)) ev_int (rv_eqI ?_))
      · unfold atI ixN
        rw [if_neg (by omega), if_pos (by rw [len]; omega)]
        have e : ((-1 : Int) + (((B.take r).map PyData.int).length : Int)).toNat = r - 1 := by rw [len]; omega
        show ((B.take r).map PyData.int)[((-1 : Int) + (((B.take r).map PyData.int).length : Int)).toNat]? = _
        rw [e]
        exact last
      · have e : ((B.take r).map PyData.int).getD (r - 1) .none = .int (B.getD (r - 1) 0) := by rw [List.getD_eq_getElem?_getD, last]; rfl
        rw [len, e]
        rfl
    · rintro es U5 H5 E ⟨r, r1, r2, rfl, r3⟩ hb L5 S5 m5 k
      have len : ((B.take r).map PyData.int).length = r := by rw [List.length_map, List.length_take]; omega
      exact s_pop L5 S5 (ev_var rfl) m5 (by intro z; rw [z] at len; simp at len; omega) k
    · rintro es ⟨r, r1, r2, rfl, r3⟩ hb
      have len : ((B.take r).map PyData.int).length = r := by rw [List.length_map, List.length_take]; omega
      have last : ((B.take r).map PyData.int)[r - 1]? = some (.int (B.getD (r - 1) 0)) := by
        rw [List.getElem?_map, List.getElem?_take, if_pos (by omega), getD_at (d := 0) (by omega)]
        rfl
      rw [Bool.and_eq_true, len, List.getD_eq_getElem?_getD, last] at hb
      have h1 := of_decide_eq_true hb.1
      have h2 : B.getD (r - 1) 0 = 0 := of_decide_eq_true hb.2
      refine ⟨by rw [List.length_dropLast, len]; omega, r - 1, by omega, by omega, ?_, ?_⟩
      · rw [List.dropLast_eq_take, len, ← List.map_take, List.take_take]
        congr 2
        omega
      · rw [← r3]
        obtain ⟨r', rfl⟩ : ∃ r', r = r' + 1 := ⟨r - 1, by omega⟩
        show lastIx B r' = lastIx B (r' + 1)
        conv => rhs; unfold lastIx
        rw [if_pos ⟨by omega, h2⟩]
    · rintro es U5 H5 ⟨r, r1, r2, rfl, r3⟩ hb g5 m5 L5
      have len : ((B.take r).map PyData.int).length = r := by rw [List.length_map, List.length_take]; omega
      have last : ((B.take r).map PyData.int)[r - 1]? = some (.int (B.getD (r - 1) 0)) := by
        rw [List.getElem?_map, List.getElem?_take, if_pos (by omega), getD_at (d := 0) (by omega)]
        rfl
      have fin : lastIx B r = r := by
        obtain ⟨r', rfl⟩ : ∃ r', r = r' + 1 := ⟨r - 1, by omega⟩
        unfold lastIx
        refine if_neg fun ⟨z1, z2⟩ => ?_
        rw [len, List.getD_eq_getElem?_getD, last] at hb
        have e1 : decide (1 < r' + 1) = true := decide_eq_true (by omega)
        have e2 : isZ ((some (PyData.int (B.getD (r' + 1 - 1) 0))).getD PyData.none) = true := decide_eq_true z2
        rw [e1, e2] at hb
        cases hb
      obtain ⟨U6, g6, e6, L6, _⟩ := ML.tell 3 g2.uh (g4.trans g5) hp3 m5 L5 rfl
      refine s_ret L6 g6.uh (ev_tuple (eva_cons (ev_var rfl) eva_nil) (.inl rfl)) fun v U7 H7 g7 r7 => q v _ U7 H7 (((g1.trans g2).trans (g6.drop (by simpa using hp3))).trans g7) r7 ?_
      show DV.d _ = DV.d (intsD (stripI (backI (n + m - 1) ns)))
      unfold stripI
      rw [hB, ← r3, fin]
      rfl
end
end Kx
end
section
set_option Elab.async false
set_option linter.all false
set_option maxRecDepth 100000
set_option maxHeartbeats 4000000
namespace Kx
open PySem PySem.Spec L2
open PyProof.Rows (envOfC)
/-! the law's hand -/
def stirI (number turn : Int) : Int :=
  let once := (number * 69997 + turn * 30203 + 7919) % 2147483587
  let twice := (once * once + turn * 51151 + once / 211) % 2147483563
  ((twice * 40013 + once / 17) % 2147483549) / 128
abbrev prStir : Prm (Int × Int) := .fn (fun x => [iD x.1, iD x.2]) (fun _ => True) fun x => iD (stirI x.1 x.2)
abbrev prLWhole : Prm Int := .fn (fun x => [iD x]) (fun _ => True) fun _ => bD true
def handL (ns : List Int) (a b c : Int) : List PyData := [intsL ns, .int a, .int b, .int c]
/-- the hand at p -/
def HandOk (U H : Hp) (p : Addr) : Prop := ∃ (ns : List Int) (a b c : Int), 0 ≤ a ∧ ML U H p (handL ns a b c)
theorem HandOk.step {M : List Addr} {U H U' H' : Hp} {p : Addr} (h : HandOk U H p) (g : Gr M U H U' H') (hp : p ∉ M) : HandOk U' H' p := let ⟨ns, a, b, c, h0, m⟩ := h; ⟨ns, a, b, c, h0, m.step g hp⟩
def spTake : Sp := fun vs H Q _ => ∃ (p : Addr) (U : Hp) (n : Nat), vs = [.ref p, .int n] ∧ Same U H ∧ HandOk U H p ∧ 0 < n ∧ n ≤ 1000 ∧ ∀ (z : Nat) U' H', z < n → Gr [p] U H U' H' → HandOk U' H' p → Q (.int z) H'
theorem len_spTake {vs : List V} {H : Hp} {Q : VK} {E : XK} (h : spTake vs H Q E) : vs.length = 2 := by
  obtain ⟨p, U, n, rfl, _⟩ := h
  rfl
def spSize : Sp := fun vs H Q _ => ∃ (p : Addr) (U : Hp) (n : Nat), vs = [.ref p, .int n] ∧ Same U H ∧ HandOk U H p ∧ 1 ≤ n ∧ n ≤ 100 ∧ ∀ (z : Nat) U' H', 1 ≤ z → z ≤ n → Gr [p] U H U' H' → HandOk U' H' p → Q (.int z) H'
theorem len_spSize {vs : List V} {H : Hp} {Q : VK} {E : XK} (h : spSize vs H Q E) : vs.length = 2 := by
  obtain ⟨p, U, n, rfl, _⟩ := h
  rfl
/-- the script in, a hand out -/
def spHand (K : PySem.W.Frag) : Sp := fun vs H Q _ => ∃ (p : Addr) (U : Hp) (ns : List Int), vs = [.ref p] ∧ Same U H ∧ SqL K U p (ns.map V.int) ∧ ns.length ≤ 90000 ∧ ∀ q U' H', Gr [] U H U' H' → H q = none → HandOk U' H' q → Q (.ref q) H'
theorem len_spHand {K : PySem.W.Frag} {vs : List V} {H : Hp} {Q : VK} {E : XK} (h : spHand K vs H Q E) : vs.length = 1 := by
  obtain ⟨p, U, n, rfl, _⟩ := h
  rfl
section
variable {C : Addr} {K : PySem.W.Frag} {ρ : Ro} {te tb : TE} {t : TA} {E : XK} {σ : L2.St} {U H : Hp} {p : Addr} {Q : VK} {n : Nat}
theorem c_stir (a b : Int) (h : EvA C t ρ [iD a, iD b]) : Ev C (tCall (prStir.sp C) [] E t) ρ (iD (stirI a b)) := ev_fn (args := prStir.args) (pre := prStir.pre) (a, b) h trivial
theorem c_lwhole (a : Int) (h : EvA C t ρ [iD a]) : Ev C (tCall (prLWhole.sp C) [] E t) ρ (bD true) := ev_fn (args := prLWhole.args) (pre := prLWhole.pre) a h trivial
/-- _law_take(hand, e): e as it is read at this heap -/
theorem run_take (L : Lo C U σ ρ) (S : Same U H) (hh : Ev C te ρ (.adr p)) (ho : HandOk U H p) (hn : 0 < n) (hn2 : n ≤ 1000) (he : ∀ (U1 H1 : Hp), Gr [] U H U1 H1 → Lo C U1 σ ρ → ∀ Q : VK, (∀ U2 H2, Gr [] U1 H1 U2 H2 → Q (.int n) H2) → tb σ H1 Q)
    (k : ∀ (z : Nat) U' H', z < n → Gr [p] U H U' H' → HandOk U' H' p → Lo C U' σ ρ → Q (.int z) H') : tCall spTake [] E (tCons te (tCons tb tNil)) σ H Q := by
  show te σ H _
  refine hh σ U H L S _ fun v U1 H1 g1 r1 => ?_
  obtain rfl : v = .ref p := r1
  refine he U1 H1 g1 (L.mono g1.uu) _ fun U2 H2 g2 => ?_
  have g := g1.trans g2
  exact ⟨p, U2, n, rfl, g.uh, ho.step g (by simp), hn, hn2, fun z U3 H3 hz g3 h3 => k z U3 H3 hz (g.any.trans g3) h3 (L.mono (g.any.trans g3).uu)⟩
/-- e read as usual -/
theorem arg_ev (S : Same U H) (h : Ev C tb ρ (iD n)) : ∀ (U1 H1 : Hp), Gr [] U H U1 H1 → Lo C U1 σ ρ → ∀ Q : VK, (∀ U2 H2, Gr [] U1 H1 U2 H2 → Q (.int n) H2) → tb σ H1 Q := fun U1 H1 g L Q q =>
  h σ U1 H1 L g.uh Q fun v U2 H2 g2 r2 => by
    cases Td.toInt r2
    exact q U2 H2 g2
/-- e reads a private list -/
theorem arg_priv {ds : List PyData} {x : Addr} (i : Nat) (m : ML U H x ds) (hi : ρ[i]? = some (some (.adr x))) (h : Ev C tb (ρ.set i (some (.d (.list ds)))) (iD n)) : ∀ (U1 H1 : Hp), Gr [] U H U1 H1 → Lo C U1 σ ρ → ∀ Q : VK, (∀ U2 H2, Gr [] U1 H1 U2 H2 → Q (.int n) H2) → tb σ H1 Q := fun U1 H1 g L Q q =>
  ev_privI i L g.uh (m.step g (by simp)) hi h fun H2 g2 => q U1 H2 g2
theorem evi_scr {ns : List Int} (h : Ev C te ρ (.scr K ns)) : EvI C (iList K te) ρ (ns.map fun z => iD z) := fun σ U H L S R q => h σ U H L S _ fun v U1 H1 g1 ⟨p, e, hp⟩ => by
  subst e
  have rd : ∀ {U' H' : Hp}, Same U1 U' → Same U' H' → SqL K H' p (ns.map V.int) := fun {U' H'} e1 e2 => sql_mono e2 (sql_mono e1 hp)
  refine ⟨p, rfl, ⟨_, rd (.refl _) g1.uh⟩, q _ U1 H1 g1 fun U' H' e1 e2 i => ⟨fun d hd => ?_, fun hi => ⟨_, rd e1 e2, by simpa using hi⟩⟩⟩
  rw [List.getElem?_map] at hd
  obtain ⟨z, hz, hd'⟩ := Option.map_eq_some_iff.mp hd
  subst hd'
  have hv : (ns.map V.int)[i]? = some (.int z) := by rw [List.getElem?_map, hz]; rfl
  refine ⟨⟨_, _, rd e1 e2, hv⟩, fun x H'' ⟨eH, hx⟩ => ?_⟩
  subst eH
  obtain rfl : x = .int z := Option.some.inj ((hx _ (rd e1 e2)).symm.trans hv)
  exact ⟨U', .refl e2, .int z⟩
theorem ev_lenScr {ns : List Int} (h : Ev C te ρ (.scr K ns)) : Ev C (tCB (fun xs H Q => ∃ p ys, xs = [V.ref p] ∧ (SqL K H p ys ∨ SqT K H p ys) ∧ Q (.int ys.length) H) (tCons te tNil)) ρ (iD ns.length) := fun σ U H L S Q q => h σ U H L S _ fun v U1 H1 g1 ⟨p, e, hp⟩ => by
  subst e
  refine ⟨p, ns.map V.int, rfl, .inl (sql_mono g1.uh hp), ?_⟩
  rw [List.length_map]
  exact q _ U1 H1 g1 (.int _)
end
section
variable {P : Program} {w : World} {K : PySem.W.Frag} {mg : Str → Option Value} {base : Heap} {C : Addr}
abbrev s__law_stir : Stmt := topS 47
abbrev N__law_stir : List Str := ["_law_number", "_law_turn", "_law_once", "_law_twice"]
theorem sc__law_stir : FnScope N__law_stir ["_law_number", "_law_turn"] (defScope s__law_stir) := ⟨rfl, rfl, rfl, by decide +kernel, rfl, by decide +kernel, by decide +kernel⟩
theorem ok__law_stir {f : Addr} {fd : FuncData} (F : Fun K "_law_stir" "_law_stir" s__law_stir f fd) (m_int : mg "int" = none) :
    FnOk P w K mg base CX0 1 f fd ["_law_number", "_law_turn"] (prStir.sp C) := by
  refine def_ok F sc__law_stir (fun _ => rfl) (by decide) fun cdv A outer s H E hr => ?_
  have nd := sc__law_stir.nd
  refine ⟨_, (pss_cons (ps_set (i := 2) nd rfl (.inl rfl) (pe_op op_mod (pe_callTy call_int1 (by rfl) m_int (by decide +kernel) (pa_cons (pe_op op_add (pe_op op_add (pe_op op_mul (pv 0) pe_int) (pe_op op_mul (pv 1) pe_int)) pe_int) pa_nil)) pe_int))
  (pss_cons (ps_set (i := 3) nd rfl (.inl rfl) (pe_op op_mod (pe_callTy call_int1 (by rfl) m_int (by decide +kernel) (pa_cons (pe_op op_add (pe_op op_add (pe_op op_mul (pv 2) (pv 2)) (pe_op op_mul (pv 1) pe_int)) (pe_op op_fdiv (pv 2) pe_int)) pa_nil)) pe_int))
  (pss_one (ps_ret (pe_op op_fdiv (pe_callTy call_int1 (by rfl) m_int (by decide +kernel) (pa_cons (pe_op op_mod (pe_callTy call_int1 (by rfl) m_int (by decide +kernel) (pa_cons (pe_op op_add (pe_op op_mul (pv 3) pe_int) (pe_op op_fdiv (pv 2) pe_int)) pa_nil)) pe_int) pa_nil)) pe_int))))), ?_⟩
  intro y U σ Q S L hp q
  obtain ⟨a, b⟩ := y
  have L : Lo C U σ [some (iD a), some (iD b), none, none] := L
  refine q_asg L S (ev_op (ev_int1 (ev_op (ev_op (ev_op (ev_var rfl) ev_int (rv_I (.inr (by constructor <;> omega)) rfl)) (ev_op (ev_var rfl) ev_int (rv_I (.inr (by constructor <;> omega)) rfl)) (rv_I0 rfl)) ev_int (rv_I0 rfl))) ev_int (rv_I (by omega) rfl)) fun σ1 U1 H1 g1 L1 => ?_
  generalize ho : (a * 69997 + b * 30203 + 7919) % 2147483587 = once at L1
  have ob : 0 ≤ once ∧ once < 2147483587 := by rw [← ho]; exact ⟨Int.emod_nonneg _ (by decide), Int.emod_lt_of_pos _ (by decide)⟩
  refine q_asg L1 g1.uh (ev_op (ev_int1 (ev_op (ev_op (ev_op (ev_var rfl) (ev_var rfl) (rv_I (.inl (by constructor <;> omega)) rfl)) (ev_op (ev_var rfl) ev_int (rv_I (.inr (by constructor <;> omega)) rfl)) (rv_I0 rfl)) (ev_op (ev_var rfl) ev_int (rv_I ⟨by omega, by omega⟩ rfl)) (rv_I0 rfl))) ev_int (rv_I (by omega) rfl)) fun σ2 U2 H2 g2 L2 => ?_
  refine s_ret L2 g2.uh (ev_op (ev_int1 (ev_op (ev_int1 (ev_op (ev_op (ev_var rfl) ev_int (rv_I (.inr (by constructor <;> omega)) rfl)) (ev_op (ev_var rfl) ev_int (rv_I ⟨by omega, by omega⟩ rfl)) (rv_I0 rfl))) ev_int (rv_I (by omega) rfl))) ev_int (rv_I ⟨by omega, by omega⟩ rfl)) fun v U3 H3 g3 r3 => q v _ U3 H3 ((g1.trans g2).trans g3) r3 ?_
  show iD _ = iD (stirI a b)
  unfold stirI
  rw [ho]
abbrev s__law_whole : Stmt := topS 49
abbrev N__law_whole : List Str := ["_law_thing"]
theorem sc__law_whole : FnScope N__law_whole ["_law_thing"] (defScope s__law_whole) := ⟨rfl, rfl, rfl, by decide +kernel, rfl, by decide +kernel, by decide +kernel⟩
theorem ok__law_whole {f : Addr} {fd : FuncData} (F : Fun K "_law_whole" "_law_whole" s__law_whole f fd) (m_bool : mg "bool" = none) (m_int : mg "int" = none) (m_isinstance : mg "isinstance" = none) :
    FnOk P w K mg base CX0 1 f fd ["_law_thing"] (prLWhole.sp C) := by
  refine def_ok F sc__law_whole (fun _ => rfl) (by decide) fun cdv A outer s H E hr => ?_
  have nd := sc__law_whole.nd
  refine ⟨_, (pss_one (ps_ret (pe_and (pe_callB (isi_K (K := K)) (by rfl) m_isinstance (by decide +kernel) (pa_cons (pv 0) (pa_cons (pe_bltn (v := .ty "int") (u := .type "int") (by rfl) m_int (by decide +kernel) rfl) pa_nil))) (pe_one (pe_not (pe_callB (isi_K (K := K)) (by rfl) m_isinstance (by decide +kernel) (pa_cons (pv 0) (pa_cons (pe_bltn (v := .ty "bool") (u := .type "bool") (by rfl) m_bool (by decide +kernel) rfl) pa_nil)))))))), ?_⟩
  intro y U σ Q S L hp q
  have L : Lo C U σ [some (iD y)] := L
  exact s_ret L S (ev_andV (p := true) (d := bD true) (ev_isi (t := "int") (b := true) (ev_var rfl) rfl (by decide +kernel)) (fun _ => ev_notV (p := false) (ev_isi (t := "int") (b := false) (ev_var rfl) rfl (by decide +kernel))) (fun h => nomatch h)) fun v U1 H1 g1 r1 => q v _ U1 H1 g1 r1 rfl
end
end Kx
end
section
set_option Elab.async false
set_option linter.all false
set_option maxRecDepth 100000
set_option maxHeartbeats 4000000
namespace Kx
open PySem PySem.Spec L2
open PyProof.Rows (envOfC)
section
variable {C : Addr} {ρ : Ro} {tt : TT} {tu tz : TS} {D : Ends} {U H : Hp} {σ : L2.St} {p : Addr} {ds : List PyData} {b : Bool}
/-- an if without else, what is behind it shown once -/
theorem q_ifJ (Pre : L2.St → Hp → Hp → Prop) (i : Nat) (L : Lo C U σ ρ) (S : Same U H) (m : ML U H p ds) (hi : ρ[i]? = some (some (.adr p))) (h : EvT C tt (ρ.set i (some (.d (.list ds)))) b) (rest : ∀ σ' U' H', Pre σ' U' H' → tz D σ' H')
    (h1 : b = true → ∀ H', Gr [] U H U H' → (∀ σ' U' H', Pre σ' U' H' → tz D σ' H') → tu { D with nx := tz D } σ H') (h2 : b = false → ∀ H', Gr [] U H U H' → Pre σ U H') : tSeq (tIfS tt tu tNext) tz D σ H :=
  q_ifP i L S m hi h (fun e H' g => h1 e H' g rest) fun e H' g => rest _ _ _ (h2 e H' g)
end
theorem mod_nat {a : Int} {n : Nat} (hn : 0 < n) : ∃ z : Nat, a % n = z ∧ z < n := by
  have h1 := Int.emod_nonneg a (show (n : Int) ≠ 0 by omega)
  have h2 := Int.emod_lt_of_pos a (show (0 : Int) < n by omega)
  exact ⟨(a % n).toNat, by omega, by omega⟩
section
variable {P : Program} {w : World} {K : PySem.W.Frag} {mg : Str → Option Value} {base : Heap} {C : Addr}
abbrev s__law_take : Stmt := topS 48
abbrev N__law_take : List Str := ["_law_hand_here", "_law_many", "_law_cell", "_law_rest"]
theorem sc__law_take : FnScope N__law_take ["_law_hand_here", "_law_many"] (defScope s__law_take) := ⟨rfl, rfl, rfl, by decide +kernel, rfl, by decide +kernel, by decide +kernel⟩
theorem ok__law_take {f : Addr} {fd : FuncData} (F : Fun K "_law_take" "_law_take" s__law_take f fd) (m_int : mg "int" = none) (m_len : mg "len" = none) (F__law_stir : Has P w K mg base "_law_stir" 1 ["_law_number", "_law_turn"] [] (prStir.sp C)) :
    FnOk P w K mg base CX0 2 f fd ["_law_hand_here", "_law_many"] spTake := by
  refine F.ok sc__law_take (fun vs H Q E h => len_spTake h) fun cdv A outer s H vs Q E hr h => ?_
  have nd := sc__law_take.nd
  refine ⟨_, (pss_cons (ps_if (PW.pt (pw_and (pt_cmpR op_eq (pe_ix (ix_listK (K := K)) (pv 0) pe_int (fun _ _ => rfl)) pe_int (nomark _)) (pw_and1 (pt_cmpR op_lt (pe_ix (ix_listK (K := K)) (pv 0) pe_int (fun _ _ => rfl)) (pe_callB (len_K (K := K)) (by rfl) m_len (by decide +kernel) (pa_cons (pe_ix (ix_listK (K := K)) (pv 0) pe_int (fun _ _ => rfl)) pa_nil)) (nomark _))))) (pss_cons (ps_set (i := 2) nd rfl (.inl rfl) (pe_ix (ix_listK (K := K)) (pe_ix (ix_listK (K := K)) (pv 0) pe_int (fun _ _ => rfl)) (pe_ix (ix_listK (K := K)) (pv 0) pe_int (fun _ _ => rfl)) (fun _ _ => rfl)))
  (pss_cons (ps_asg (pe_op op_add (pe_ix (ix_listK (K := K)) (pv 0) pe_int (fun _ _ => rfl)) pe_int) (pg_sub (pv 0) pe_int set_list))
  (pss_cons (ps_if (pt_cmpR op_lt (pv 2) (pe_op op_pow pe_int pe_int) (nomark _)) (pss_one (ps_ret (pe_op op_mod (pe_callTy call_int1 (by rfl) m_int (by decide +kernel) (pa_cons (pe_fn F__law_stir (hr.mono (by decide)) (by rfl) (pa_cons (pe_op op_mod (pe_callTy call_int1 (by rfl) m_int (by decide +kernel) (pa_cons (pv 2) pa_nil)) pe_int) (pa_cons (pe_ix (ix_listK (K := K)) (pv 0) pe_int (fun _ _ => rfl)) pa_nil))) pa_nil)) (pv 1)))) pss_nil)
  (pss_one (ps_asg (pv 2) (pg_sub (pv 0) pe_int set_list)))))) pss_nil)
  (pss_cons (ps_if (pt_cmpR op_gt (pe_ix (ix_listK (K := K)) (pv 0) pe_int (fun _ _ => rfl)) pe_int (nomark _)) (pss_cons (ps_set (i := 3) nd rfl (.inl rfl) (pe_ix (ix_listK (K := K)) (pv 0) pe_int (fun _ _ => rfl)))
  (pss_cons (ps_asg (pe_op op_fdiv (pe_callTy call_int1 (by rfl) m_int (by decide +kernel) (pa_cons (pv 3) pa_nil)) (pv 1)) (pg_sub (pv 0) pe_int set_list))
  (pss_one (ps_ret (pe_op op_mod (pe_callTy call_int1 (by rfl) m_int (by decide +kernel) (pa_cons (pv 3) pa_nil)) (pv 1)))))) pss_nil)
  (pss_cons (ps_asg (pe_op op_mod (pe_callTy call_int1 (by rfl) m_int (by decide +kernel) (pa_cons (pe_op op_add (pe_ix (ix_listK (K := K)) (pv 0) pe_int (fun _ _ => rfl)) pe_int) pa_nil)) pe_int) (pg_sub (pv 0) pe_int set_list))
  (pss_one (ps_ret (pe_op op_mod (pe_callTy call_int1 (by rfl) m_int (by decide +kernel) (pa_cons (pe_fn F__law_stir (hr.mono (by decide)) (by rfl) (pa_cons (pe_ix (ix_listK (K := K)) (pv 0) pe_int (fun _ _ => rfl)) (pa_cons (pe_ix (ix_listK (K := K)) (pv 0) pe_int (fun _ _ => rfl)) pa_nil))) pa_nil)) (pv 1))))))), ?_⟩
  obtain ⟨p, U, n, rfl, S, ⟨ns, a, b, c, a0, m⟩, hn, hn2, q⟩ := h
  have L : Lo C U (L2.start N__law_take [.ref p, .int n]) ([some (.adr p), some (iD n)] ++ List.replicate (N__law_take.length - 2) none) := loc_start (ds := [.adr p, iD n]) (.cons rfl (.cons (.int _) .nil)) (by show 2 ≤ 4; decide)
  generalize L2.start N__law_take [.ref p, .int n] = σ at L
  have L : Lo C U σ [some (.adr p), some (iD n), none, none] := L
  have fin : ∀ {v : Int} {U' H' : Hp}, Gr [p] U H U' H' → HandOk U' H' p → Q (.int (v % n)) H' := fun {v U' H'} g h => by
    obtain ⟨z, e, hz⟩ := mod_nat (a := v) hn
    rw [e]
    exact q z U' H' hz g h
  refine q_ifJ (fun σ' U' H' => Lo C U' σ' [some (.adr p), some (iD n), none, none] ∧ Gr [p] U H U' H' ∧ HandOk U' H' p) 0 L S m rfl (b := decide (b = 0) && decide (a < ns.length))
    (evt_and (evt_test (ev_op (ev_op (ev_var rfl) ev_int (rv_ixL (ds := handL ns a b c) (c := .int b) rfl)) ev_int (rv_eqI rfl))) fun _ => evt_test (ev_op (ev_op (ev_var rfl) ev_int (rv_ixL (ds := handL ns a b c) (c := .int a) rfl)) (ev_call (eva_cons (ev_op (ev_var rfl) ev_int (rv_ixL (ds := handL ns a b c) (c := intsL ns) rfl)) eva_nil) rc_lenLM) (rv_B0 rfl)))
    (fun σ1 U1 H1 ⟨L1, g1, ⟨ns, a, b, c, a0, m⟩⟩ => ?_) (fun hb H1 g1 rest => ?_) (fun hb H1 g1 => ⟨L, g1.any, ⟨ns, a, b, c, a0, m.step g1 (by simp)⟩⟩)
  · refine q_ifP 0 L1 g1.uh m rfl (evt_test (ev_op (ev_op (ev_var rfl) ev_int (rv_ixL (ds := handL ns a b c) (c := .int b) rfl)) ev_int (rv_B0 rfl))) (fun hb H2 g2 => ?_) (fun hb H2 g2 => ?_)
    · have m2 := m.step g2 (by simp)
      refine q_asgV 0 L1 g2.uh m2 rfl (ev_op (ev_var rfl) ev_int (rv_ixL (ds := handL ns a b c) (c := .int b) rfl)) fun σ3 H3 g3 L3 => ?_
      have m3 := m2.step g3 (by simp)
      refine q_setL L3 g3.uh (ev_op (ev_int1 (ev_var rfl)) (ev_var rfl) (rv_I ⟨by omega, by omega⟩ rfl)) (ev_var rfl) ev_int m3 rfl fun U4 H4 g4 m4 L4 => ?_
      refine s_ret L4 g4.uh (ev_op (ev_int1 (ev_var rfl)) (ev_var rfl) (rv_I (by omega) rfl)) fun v U5 H5 g5 r5 => ?_
      cases Td.toInt r5
      exact fin (((g1.trans (g2.trans g3).any).trans g4).trans g5.any) ⟨ns, a, _, c, a0, m4.step g5 (by simp)⟩
    · have m2 := m.step g2 (by simp)
      refine q_setLP 0 L1 g2.uh m2 rfl (ev_op (ev_int1 (ev_op (ev_op (ev_var rfl) ev_int (rv_ixL (ds := handL ns a b c) (c := .int c) rfl)) ev_int (rv_I0 rfl))) ev_int (rv_I (by omega) rfl)) (ev_var rfl) ev_int rfl fun U3 H3 g3 m3 L3 => ?_
      refine s_retPI 0 L3 g3.uh m3 rfl (ev_op (ev_int1 (c_stir _ _ (eva_cons (ev_op (ev_var rfl) ev_int (rv_ixL (ds := handL ns a b _) (c := .int _) rfl)) (eva_cons (ev_op (ev_var rfl) ev_int (rv_ixL (ds := handL ns a b _) (c := .int a) rfl)) eva_nil)))) (ev_var rfl) (rv_I (by omega) rfl)) fun H4 g4 => ?_
      exact fin (((g1.trans g2.any).trans g3).trans g4.any) ⟨ns, a, b, _, a0, m3.step g4 (by simp)⟩
  · rw [Bool.and_eq_true] at hb
    have hal : a < ns.length := of_decide_eq_true hb.2
    have m1 := m.step g1 (by simp)
    have cellAt : atI (ns.map PyData.int) a = some (.int (ns.getD a.toNat 0)) := by
      have e : a = ((a.toNat : Nat) : Int) := by omega
      conv => lhs; rw [e]
      exact at_map (getD_at (by omega))
    refine q_asgV 0 L g1.uh m1 rfl (ev_op (ev_op (ev_var rfl) ev_int (rv_ixL (ds := handL ns a b c) (c := intsL ns) rfl)) (ev_op (ev_var rfl) ev_int (rv_ixL (ds := handL ns a b c) (c := .int a) rfl)) (rv_ixL cellAt)) fun σ2 H2 g2 L2 => ?_
    have m2 := m1.step g2 (by simp)
    refine q_setLP 0 L2 g2.uh m2 rfl (ev_op (ev_op (ev_var rfl) ev_int (rv_ixL (ds := handL ns a b c) (c := .int a) rfl)) ev_int (rv_I0 rfl)) (ev_var rfl) ev_int rfl fun U3 H3 g3 m3 L3 => ?_
    have g03 : Gr [p] U H U3 H3 := (g1.trans g2).any.trans g3
    refine q_when L3 g3.uh (evt_test (ev_op (ev_var rfl) (ev_op ev_int ev_int (rv_I ⟨by omega, by omega, by decide⟩ rfl)) (rv_B0 rfl))) (fun hc U4 H4 g4 L4 => ?_) (fun hc U4 H4 g4 L4 => ?_)
    · have m4 := m3.step g4 (by simp)
      refine s_retPI 0 L4 g4.uh m4 rfl (ev_op (ev_int1 (c_stir _ _ (eva_cons (ev_op (ev_int1 (ev_var rfl)) ev_int (rv_I (by omega) rfl)) (eva_cons (ev_op (ev_var rfl) ev_int (rv_ixL (ds := handL ns (a + 1) b c) (c := .int (a + 1)) rfl)) eva_nil)))) (ev_var rfl) (rv_I (by omega) rfl)) fun H5 g5 => ?_
      exact fin ((g03.trans g4.any).trans g5.any) ⟨ns, a + 1, b, c, by omega, m4.step g5 (by simp)⟩
    · refine s_setL L4 g4.uh (ev_var rfl) (ev_var rfl) ev_int (m3.step g4 (by simp)) rfl fun U5 H5 g5 m5 L5 => ?_
      exact rest _ U5 H5 ⟨L5.sub (.eq (.eq (.no (.eq .nil)))), (g03.trans g4.any).trans g5, ⟨ns, a + 1, _, c, by omega, m5⟩⟩
abbrev s__law_size : Stmt := topS 50
abbrev N__law_size : List Str := ["_law_hand_here", "_law_most", "_law_pick"]
theorem sc__law_size : FnScope N__law_size ["_law_hand_here", "_law_most"] (defScope s__law_size) := ⟨rfl, rfl, rfl, by decide +kernel, rfl, by decide +kernel, by decide +kernel⟩
theorem ok__law_size {f : Addr} {fd : FuncData} (F : Fun K "_law_size" "_law_size" s__law_size f fd) (F__law_take : Has P w K mg base "_law_take" 2 ["_law_hand_here", "_law_many"] [] spTake) :
    FnOk P w K mg base CX0 3 f fd ["_law_hand_here", "_law_most"] spSize := by
  refine F.ok sc__law_size (fun vs H Q E h => len_spSize h) fun cdv A outer s H vs Q E hr h => ?_
  have nd := sc__law_size.nd
  refine ⟨_, (pss_cons (ps_set (i := 2) nd rfl (.inl rfl) (pe_fn F__law_take (hr.mono (by decide)) (by rfl) (pa_cons (pv 0) (pa_cons (pe_op op_sub (pe_op op_mul pe_int (pv 1)) pe_int) pa_nil))))
  (pss_one (ps_ret (pe_ifExp (pt_cmpR op_eq (pv 2) pe_int (nomark _)) pe_int (pe_op op_add pe_int (pe_op op_fdiv (pe_op op_sub (pv 2) pe_int) pe_int)))))), ?_⟩
  obtain ⟨p, U, n, rfl, S, ho, hn, hn2, q⟩ := h
  have L : Lo 0 U (L2.start N__law_size [.ref p, .int n]) ([some (.adr p), some (iD n)] ++ List.replicate (N__law_size.length - 2) none) := loc_start (ds := [.adr p, iD n]) (.cons rfl (.cons (.int _) .nil)) (by show 2 ≤ 3; decide)
  generalize L2.start N__law_size [.ref p, .int n] = σ at L
  have L : Lo 0 U σ [some (.adr p), some (iD n), none] := L
  show tCall spTake [] _ _ σ H _
  refine run_take (n := 3 * n - 2) L S (ev_var rfl) ho (by omega) (by omega) (arg_ev S ((ev_op (ev_op ev_int (ev_var rfl) (rv_I (.inl (by constructor <;> omega)) rfl)) ev_int (rv_I0 rfl)).to (congrArg iD (by omega)))) fun z U1 H1 hz g1 h1 L1 => ?_
  have L2 : Lo 0 U1 (σ.set 2 (some (.int z))) [some (.adr p), some (iD n), some (iD z)] := L1.set (.int z)
  refine s_ret L2 g1.uh (ev_if (p := decide (z = 0)) (d := iD (if z = 0 then 1 else 2 + (z - 1) / 3 : Nat)) (evt_test (ev_op (ev_var rfl) ev_int (rv_eqI (decide_eq_decide.mpr (by omega))))) (fun hb => ?_) (fun hb => ?_)) fun v U2 H2 g2 r2 => ?_
  · rw [if_pos (of_decide_eq_true hb)]
    exact ev_int
  · have hz0 : ¬ z = 0 := of_decide_eq_false hb
    rw [if_neg hz0]
    exact (ev_op ev_int (ev_op (ev_op (ev_var rfl) ev_int (rv_I0 rfl)) ev_int (rv_I ⟨by omega, by omega⟩ rfl)) (rv_I0 rfl)).to (congrArg iD (by omega))
  · cases Td.toInt r2
    refine q _ U2 H2 ?_ ?_ (g1.trans g2.any) (h1.step g2 (by simp)) <;> split <;> omega
end
end Kx
end
section
set_option Elab.async false
set_option linter.all false
set_option maxRecDepth 100000
set_option maxHeartbeats 4000000
namespace Kx
open PySem PySem.Spec L2
open PyProof.Rows (envOfC)
theorem seqIx_nat {z n : Nat} (h : z < n) : seqIndex? (z : Int) n = some z := by
  unfold seqIndex?
  have e : (if (z : Int) < 0 then (z : Int) + n else z) = z := if_neg (by omega)
  simp only [e]
  rw [if_pos (by simp; omega), Int.toNat_natCast]
theorem erase_perm {α : Type} : ∀ {l : List α} {z : Nat} {c : α}, l[z]? = some c → (c :: l.eraseIdx z).Perm l
  | [], _, _, h => by simp at h
  | x :: l, 0, c, h => by
    have e : x = c := by simpa using h
    subst e
    exact List.Perm.refl _
  | x :: l, z + 1, c, h => (List.Perm.swap x c _).trans ((erase_perm (l := l) (z := z) (by simpa using h)).cons x)
theorem map_erase {α β : Type} (f : α → β) : ∀ (l : List α) (z : Nat), (l.map f).eraseIdx z = (l.eraseIdx z).map f
  | [], _ => rfl
  | _ :: _, 0 => rfl
  | x :: l, z + 1 => congrArg (f x :: ·) (map_erase f l z)
def seedAt (ns : List Int) (i : Nat) : Int := (ns.take i).foldl (fun s c => (s * 48611 + (if c < 0 then -c else c)) % 2147483629) (104729 + ns.length)
/-- an order drawn -/
def spDrawnOrd : Sp := fun vs H Q _ => ∃ (p : Addr) (U : Hp) (m : Nat), vs = [.ref p, .int m] ∧ Same U H ∧ HandOk U H p ∧ m ≤ 100 ∧ ∀ (o : List Nat) v U' H', IsOrd m o → Gr [p] U H U' H' → HandOk U' H' p → Td U' v (nL o) → Q v H'
theorem len_spDrawnOrd {vs : List V} {H : Hp} {Q : VK} {E : XK} (h : spDrawnOrd vs H Q E) : vs.length = 2 := by
  obtain ⟨p, U, n, rfl, _⟩ := h
  rfl
abbrev prExI : Prm (Int × Int) := .fn (fun x => [iD x.1, iD x.2]) (fun _ => True) fun x => bD (decide (x.1 = x.2))
abbrev prExT : Prm (List Int × List Int) := .fn (fun x => [.d (intsD x.1), .d (intsD x.2)]) (fun x => x.2.length ≤ 1000) fun x => bD (decide (x.1 = x.2))
abbrev prLMore : Prm (Load × (Nat × Nat)) := .fn (fun x => [.d (loadD x.1), .d (pairD x.2)]) (fun x => x.2.1 < x.1.1.length ∧ x.2.2 < x.1.2.length) fun x => .d (loadD (oneMore x.1 x.2))
section
variable {C : Addr} {K : PySem.W.Frag} {ρ : Ro} {to te tb : TE} {t : TA} {E : XK} {σ : L2.St} {U H : Hp} {p x : Addr} {Q : VK} {n : Nat} {ds : List PyData} {D : Ends}
theorem c_exI (a b : Int) (h : EvA C t ρ [iD a, iD b]) : Ev C (tCall (prExI.sp C) [] E t) ρ (bD (decide (a = b))) := ev_fn (args := prExI.args) (pre := prExI.pre) (a, b) h trivial
theorem c_exT (a b : List Int) (h : EvA C t ρ [.d (intsD a), .d (intsD b)]) (h1 : b.length ≤ 1000) : Ev C (tCall (prExT.sp C) [] E t) ρ (bD (decide (a = b))) := ev_fn (args := prExT.args) (pre := prExT.pre) (a, b) h h1
theorem c_lmore (l : Load) (q : Nat × Nat) (h : EvA C t ρ [.d (loadD l), .d (pairD q)]) (h1 : q.1 < l.1.length) (h2 : q.2 < l.2.length) : Ev C (tCall (prLMore.sp C) [] E t) ρ (.d (loadD (oneMore l q))) := ev_fn (args := prLMore.args) (pre := prLMore.pre) (l, q) h ⟨h1, h2⟩
/-- xs.pop(_law_take(hand, len(xs))) -/
theorem run_pop (i : Nat) (L : Lo C U σ ρ) (S : Same U H) (hx : Ev C to ρ (.adr x)) (m : ML U H x ds) (hi : ρ[i]? = some (some (.adr x))) (hh : Ev C te ρ (.adr p)) (ho : HandOk U H p) (ne : x ≠ p) (h0 : ds ≠ []) (h1 : ds.length ≤ 1000) (hl : Ev C tb (ρ.set i (some (.d (.list ds)))) (iD ds.length))
    (k : ∀ (z : Nat) (d : PyData) v U' H', ds[z]? = some d → Gr [p, x] U H U' H' → HandOk U' H' p → ML U' H' x (ds.eraseIdx z) → Td U' v d → Lo C U' σ ρ → Q v H') : tBM K "list" rPopAt to (tCons (tCall spTake [] E (tCons te (tCons tb tNil))) tNil) σ H Q := by
  show to σ H _
  refine hx σ U H L S _ fun v U1 H1 g1 r1 => ?_
  obtain rfl : v = .ref x := r1
  have m1 := m.step g1 (by simp)
  obtain ⟨n1, vs1, hx1, t1⟩ := id m1
  refine ⟨.inl ⟨rfl, _, SqL.of hx1⟩, ?_⟩
  have hp := List.length_pos_iff.mpr h0
  show tCall spTake [] E (tCons te (tCons tb tNil)) σ H1 _
  refine run_take (L.mono g1.uu) g1.uh hh (ho.step g1 (by simp)) hp h1 (arg_priv i m1 hi hl) fun z U2 H2 hz g2 h2 L2 => ?_
  obtain ⟨n2, vs2, hx2, t2⟩ := m1.step g2 (by simpa using ne)
  have e2 := t2.length
  obtain ⟨v, a1, a2⟩ := t2.get (getD_at (d := PyData.none) hz)
  have g3 : Gr [x] U2 H2 U2 (upd H2 x (.lst (vs2.eraseIdx z))) := Gr.mut g2.uh n2 (by simp)
  have g : Gr [p, x] U H U2 (upd H2 x (.lst (vs2.eraseIdx z))) := (g1.any.trans (g2.wide (by simp))).trans (g3.wide (by simp))
  refine ⟨x, vs2, z, z, v, rfl, rfl, hx2, by omega, by omega, ?_, a1, k z _ v U2 _ (getD_at (d := PyData.none) hz) g (h2.step g3 (by simpa using Ne.symm ne)) ⟨n2, _, upd_same, t2.erase z⟩ a2 L2⟩
  exact seqIx_nat (by omega)
/-- a private list returned -/
theorem s_retL {M : List Addr} {U0 H0 : Hp} (i : Nat) (S0 : Same U0 H0) (g : Gr M U0 H0 U H) (hx : H0 x = none) (m : ML U H x ds) (L : Lo C U σ ρ) (hi : ρ[i]? = some (some (.adr x))) (k : ∀ v U', Gr M U0 H0 U' H → Td U' v (.list ds) → Same U U' → (∀ b, b ≠ x → U' b = U b) → D.rt v H) : tRet (tVar i) D σ H := by
  obtain ⟨U1, g1, e1, L1, z⟩ := ML.tell i S0 g hx m L hi
  have hlt : i < ρ.length := (List.getElem?_eq_some_iff.mp hi).1
  obtain ⟨v, a1, a2⟩ := L1.get i (.d (.list ds)) (List.getElem?_set_self hlt)
  exact ⟨v, a1, k v U1 g1 a2 e1 z⟩
end
theorem HandOk.keep {U U' H : Hp} {p : Addr} (h : HandOk U H p) (e : Same U U') (z : U' p = U p) : HandOk U' H p := by
  obtain ⟨ns, a, b, c, h0, n, vs, hv, t⟩ := h
  exact ⟨ns, a, b, c, h0, by rw [z]; exact n, vs, hv, t.mono e⟩
theorem HandOk.here {U H : Hp} {p : Addr} (h : HandOk U H p) : H p ≠ none := by
  obtain ⟨_, _, _, _, _, m⟩ := h
  exact m.here
section
variable {P : Program} {w : World} {K : PySem.W.Frag} {mg : Str → Option Value} {base : Heap} {C : Addr}
theorem no_exact {f : Addr} {fd : FuncData} {st : Stmt} {N ps : List Str} {x qual : Str} (F : Fun K x qual st f fd) (S : FnScope N ps (defScope st)) : FnOk P w K mg base CX0 1 f fd ps spNo :=
  F.ok S (fun _ _ _ _ h => h.elim) fun _ _ _ _ _ _ _ _ _ h => h.elim
abbrev s__law_hand : Stmt := topS 46
abbrev N__law_hand : List Str := ["_law_script", "_law_seed", "_law_cells", "_law_cell"]
theorem sc__law_hand : FnScope N__law_hand ["_law_script"] (defScope s__law_hand) := ⟨rfl, rfl, rfl, by decide +kernel, rfl, by decide +kernel, by decide +kernel⟩
theorem ok__law_hand {f : Addr} {fd : FuncData} (F : Fun K "_law_hand" "_law_hand" s__law_hand f fd) (m_abs : mg "abs" = none) (m_int : mg "int" = none) (m_len : mg "len" = none) :
    FnOk P w K mg base CX0 1 f fd ["_law_script"] (spHand K) := by
  refine F.ok sc__law_hand (fun vs H Q E h => len_spHand h) fun cdv A outer s H vs Q E hr h => ?_
  have nd := sc__law_hand.nd
  refine ⟨_, (pss_cons (ps_set (i := 1) nd rfl (.inl rfl) (pe_op op_add pe_int (pe_callB (len_K (K := K)) (by rfl) m_len (by decide +kernel) (pa_cons (pv 0) pa_nil))))
  (pss_cons (ps_set (i := 2) nd rfl (.inl rfl) (pe_lst pa_nil))
  (pss_cons (ps_for PassesOwn.never rfl (pi_listK (K := K) rfl (pv 0)) (pg_name (i := 3) nd rfl (.inl rfl)) (pss_cons (ps_expr (pe_bm PySem.F.plainAttrs_list PySem.F.slot_list_append PySem.F.type_list_append mt_append (pv 2) (pa_cons (pe_callB call_abs (by rfl) m_abs (by decide +kernel) (pa_cons (pe_callTy call_int1 (by rfl) m_int (by decide +kernel) (pa_cons (pv 3) pa_nil)) pa_nil)) pa_nil)))
  (pss_one (ps_set (i := 1) nd rfl (.inl rfl) (pe_op op_mod (pe_callTy call_int1 (by rfl) m_int (by decide +kernel) (pa_cons (pe_op op_add (pe_op op_mul (pv 1) pe_int) (pe_callB call_abs (by rfl) m_abs (by decide +kernel) (pa_cons (pe_callTy call_int1 (by rfl) m_int (by decide +kernel) (pa_cons (pv 3) pa_nil)) pa_nil))) pa_nil)) pe_int)))))
  (pss_one (ps_ret (pe_lst (pa_cons (pv 2) (pa_cons pe_int (pa_cons pe_int (pa_cons (pv 1) pa_nil)))))))))), ?_⟩
  obtain ⟨p, U, ns, rfl, S, hp, few, q⟩ := h
  have L : Lo 0 U (L2.start N__law_hand [.ref p]) ([some (.scr K ns)] ++ List.replicate (N__law_hand.length - 1) none) := loc_start (ds := [.scr K ns]) (.cons ⟨p, rfl, hp⟩ .nil) (by show 1 ≤ 4; decide)
  generalize L2.start N__law_hand [.ref p] = σ at L
  have L : Lo 0 U σ [some (.scr K ns), none, none, none] := L
  let ab : Int → Int := fun c => if c < 0 then -c else c
  refine q_asg L S ((ev_op ev_int (ev_lenScr (ev_var rfl)) (rv_I0 rfl)).to (b := iD (seedAt ns 0)) rfl) fun σ1 U1 H1 g1 L1 => ?_
  refine q_asgN L1 g1.uh (evn_lst (ds := []) eva_nil (by simp)) fun x σ2 U2 H2 g2 hx m2 L2 => ?_
  have hx0 : H x = none := g1.same.free hx
  refine q_for ns (fun c => iD c) (fun i => [some (.scr K ns), some (iD (seedAt ns i)), some (.adr x), none]) (fun i U' H' => Gr [x] U H U' H' ∧ ML U' H' x (((ns.take i).map ab).map PyData.int)) L2 g2.uh (evi_scr (ev_var rfl)) (.eq (.eq (.eq (.no .nil)))) (fun _ _ g => ⟨((g1.trans g2).trans g).any, m2.step g (by simp)⟩) ?_ ?_
  · intro i c Ub U3 H3 U4 H4 ea ⟨g3, m3⟩ _ sb g4
    have it : i < ns.length := (List.getElem?_eq_some_iff.mp ea).1
    refine ⟨_, _, evg_name, fun σ4 L4 => ?_⟩
    refine q_app L4 g4.uh (ev_var rfl) (ev_abs (ev_int1 (ev_var rfl))) (m3.step g4 (by simp)) (by rw [List.length_map, List.length_map, List.length_take]; omega) fun U5 H5 g5 m5 L5 => ?_
    refine s_asg L5 g5.uh ((ev_op (ev_int1 (ev_op (ev_op (ev_var rfl) ev_int (rv_I (.inr (by constructor <;> omega)) rfl)) (ev_abs (ev_int1 (ev_var rfl))) (rv_I0 rfl))) ev_int (rv_I (by omega) rfl)).to (b := iD (seedAt ns (i + 1))) ?_) fun σ6 U6 H6 g6 L6 => ?_
    · unfold seedAt
      rw [take_succ_at ea, List.foldl_append]
      rfl
    · refine nx_of (Nxt.of (M := [x]) sb (g5.trans g6.any) (L6.sub (.eq (.eq (.eq (.no .nil))))) ⟨((g3.trans g4.any).trans g5).trans g6.any, ?_⟩)
      have e : ((ns.take (i + 1)).map ab).map PyData.int = ((ns.take i).map ab).map PyData.int ++ [.int (ab c)] := by
        rw [take_succ_at ea, List.map_append, List.map_append]
        rfl
      rw [e]
      exact m5.step g6 (by simp)
  · intro U3 H3 σ3 L3 s1 s2 ⟨g3, m3⟩
    rw [List.take_length] at m3
    obtain ⟨U4, g4, e4, L4, _⟩ := ML.tell 2 S g3 hx0 m3 L3 rfl
    have g4' : Gr [] U H U4 H3 := g4.drop (by simpa using hx0)
    show tLst _ σ3 H3 _
    refine (evn_lst (ds := handL (ns.map ab) 0 0 (seedAt ns ns.length)) (eva_cons (ev_var rfl) (eva_cons ev_int (eva_cons ev_int (eva_cons (ev_var rfl) eva_nil)))) (by show 4 ≤ 100000; decide)) σ3 U4 H3 L4 g4.uh _ fun y vs U5 H5 g5 hy uy hy5 t5 => ?_
    exact q y U5 H5 (g4'.trans g5) (g4'.same.free hy) ⟨ns.map ab, 0, 0, _, by decide, uy, vs, hy5, t5⟩
abbrev s__law_order : Stmt := topS 52
abbrev N__law_order : List Str := ["_law_hand_here", "_law_m", "_law_left", "_law_told", "_law_k"]
theorem sc__law_order : FnScope N__law_order ["_law_hand_here", "_law_m"] (defScope s__law_order) := ⟨rfl, rfl, rfl, by decide +kernel, rfl, by decide +kernel, by decide +kernel⟩
theorem ok__law_order {f : Addr} {fd : FuncData} (F : Fun K "_law_order" "_law_order" s__law_order f fd) (m_len : mg "len" = none) (m_list : mg "list" = none) (m_range : mg "range" = none) (F__law_take : Has P w K mg base "_law_take" 2 ["_law_hand_here", "_law_many"] [] spTake) :
    FnOk P w K mg base CX0 3 f fd ["_law_hand_here", "_law_m"] spDrawnOrd := by
  refine F.ok sc__law_order (fun vs H Q E h => len_spDrawnOrd h) fun cdv A outer s H vs Q E hr h => ?_
  have nd := sc__law_order.nd
  refine ⟨_, (pss_cons (ps_set (i := 2) nd rfl (.inl rfl) (pe_listRg rfl (by rfl) m_list (prg_1 (by rfl) m_range (pv 1))))
  (pss_cons (ps_set (i := 3) nd rfl (.inl rfl) (pe_lst pa_nil))
  (pss_cons (ps_for PassesOwn.never rfl (pi_range1 (by rfl) m_range (pa_cons (pv 1) pa_nil)) (pg_name (i := 4) nd rfl (.inl rfl)) (pss_one (ps_expr (pe_bm PySem.F.plainAttrs_list PySem.F.slot_list_append PySem.F.type_list_append mt_append (pv 3) (pa_cons (pe_bm PySem.F.plainAttrs_list PySem.F.slot_list_pop PySem.F.type_list_pop mt_popAt (pv 2) (pa_cons (pe_fn F__law_take (hr.mono (by decide)) (by rfl) (pa_cons (pv 0) (pa_cons (pe_callB (len_K (K := K)) (by rfl) m_len (by decide +kernel) (pa_cons (pv 2) pa_nil)) pa_nil))) pa_nil)) pa_nil)))))
  (pss_one (ps_ret (pv 3)))))), ?_⟩
  obtain ⟨p, U, m, rfl, S, ho, hm, q⟩ := h
  have L : Lo 0 U (L2.start N__law_order [.ref p, .int m]) ([some (.adr p), some (iD m)] ++ List.replicate (N__law_order.length - 2) none) := loc_start (ds := [.adr p, iD m]) (.cons rfl (.cons (.int _) .nil)) (by show 2 ≤ 5; decide)
  generalize L2.start N__law_order [.ref p, .int m] = σ at L
  have L : Lo 0 U σ [some (.adr p), some (iD m), none, none, none] := L
  refine q_asgN L S ((evn_listRg (ev_var rfl) (by omega) (by omega)).to (rgD_nat m)) fun x σ1 U1 H1 g1 hx m1 L1 => ?_
  refine q_asgN L1 g1.uh (evn_lst (ds := []) eva_nil (by simp)) fun y σ2 U2 H2 g2 hy m2 L2 => ?_
  have xp : x ≠ p := fun e => ho.here (by rw [← e]; exact hx)
  have yp : y ≠ p := fun e => (ho.step g1 (by simp)).here (by rw [← e]; exact hy)
  have xy : x ≠ y := fun e => m1.here (by rw [e]; exact hy)
  have hy0 : H y = none := g1.same.free hy
  refine q_for (List.range m) (fun (j : Nat) => iD j) (fun i => [some (.adr p), some (iD m), some (.adr x), some (.adr y), none]) (fun i U' H' => Gr [p, x, y] U H U' H' ∧ HandOk U' H' p ∧ ∃ lf tl : List Nat, (tl ++ lf).Perm (List.range m) ∧ tl.length = i ∧ ML U' H' x (lf.map nI) ∧ ML U' H' y (tl.map nI)) L2 g2.uh
    (evi_rngN (eva_cons (ev_var rfl) eva_nil) (by omega)) (.eq (.eq (.eq (.eq (.no .nil))))) (fun _ _ g => ⟨((g1.trans g2).trans g).any, ho.step ((g1.trans g2).trans g) (by simp), List.range m, [], List.Perm.refl _, rfl, m1.step (g2.trans g) (by simp), m2.step g (by simp)⟩) ?_ ?_
  · intro i a Ub U3 H3 U4 H4 ea ⟨g3, h3, lf, tl, pm, el, mx, my⟩ _ sb g4
    obtain ⟨hi, rfl⟩ := rng_at ea
    have lenlf : lf.length + a = m := by
      have := pm.length_eq
      rw [List.length_append, List.length_range] at this
      omega
    refine ⟨_, _, evg_name, fun σ4 L4 => ?_⟩
    show (tBM K "list" rAppend (tVar 3) _) σ4 H4 _
    refine ⟨.ref y, ?_, ?_⟩
    · obtain ⟨v, a1, a2⟩ := L4.get 3 (.adr y) rfl
      obtain rfl : v = .ref y := a2
      exact a1
    have my4 := my.step g4 (by simp)
    obtain ⟨ny, vy, hy4, ty⟩ := id my4
    refine ⟨.inl ⟨rfl, _, SqL.of hy4⟩, ?_⟩
    show (tBM K "list" rPopAt (tVar 2) _) σ4 H4 _
    refine run_pop 2 L4 g4.uh (ev_var rfl) (mx.step g4 (by simp)) rfl (ev_var rfl) (h3.step g4 (by simp)) xp (by intro z; rw [List.map_eq_nil_iff] at z; subst z; simp at lenlf; omega) (by rw [List.length_map]; omega) (ev_call (eva_cons (ev_var rfl) eva_nil) rc_lenL) fun z d v U5 H5 hz g5 h5 mx5 tv L5 => ?_
    rw [List.getElem?_map] at hz
    obtain ⟨c, hc, rfl⟩ := Option.map_eq_some_iff.mp hz
    have my5 := my4.step g5 (by simp [yp, Ne.symm xy])
    obtain ⟨ny5, vy5, hy5, ty5⟩ := my5
    have g6 : Gr [y] U5 H5 U5 (upd H5 y (.lst (vy5 ++ [v]))) := Gr.mut g5.uh ny5 (by simp)
    have ltl : vy5.length < sizeLine := szlt (by rw [ty5.length, List.length_map]; omega)
    refine ⟨y, vy5, v, rfl, rfl, hy5, ltl, nx_of ?_⟩
    refine Nxt.of (M := [p, x, y]) (U0 := U4) (H0 := H4) sb ((g5.wide (by simp)).trans (g6.wide (by simp))) (L5.sub (.eq (.eq (.eq (.eq (.no .nil)))))) ⟨((g3.trans g4.any).trans (g5.wide (by simp))).trans (g6.wide (by simp)), h5.step g6 (by simpa using Ne.symm yp), lf.eraseIdx z, tl ++ [c], ?_, by rw [List.length_append]; simp [el], ?_, ?_⟩
    · refine List.Perm.trans ?_ pm
      rw [List.append_assoc]
      refine List.Perm.append_left tl ?_
      exact erase_perm hc
    · rw [← map_erase]
      exact mx5.step g6 (by simpa using xy)
    · rw [List.map_append]
      exact ⟨ny5, _, upd_same, ty5.snoc tv⟩
  · intro U3 H3 σ3 L3 s1 s2 ⟨g3, h3, lf, tl, pm, el, mx, my⟩
    have lf0 : lf = [] := by
      have := pm.length_eq
      rw [List.length_append, List.length_range] at this
      rw [List.length_range] at el
      exact List.length_eq_zero_iff.mp (by omega)
    subst lf0
    rw [List.append_nil] at pm
    refine s_retL 3 S g3 hy0 my L3 rfl fun v U4 g4 tv e4 z4 => ?_
    refine q tl v U4 H3 pm ⟨g4.uu, g4.uh, fun b o hb hn => ?_, g4.fr, g4.st⟩ (h3.keep e4 (z4 p (Ne.symm yp))) tv
    refine g4.hh b o hb ?_
    simp only [List.mem_cons, List.not_mem_nil, or_false] at hn ⊢
    rintro (rfl | rfl | rfl)
    · exact hn rfl
    · rw [hx] at hb; cases hb
    · rw [hy0] at hb; cases hb
end
end Kx
end
section
set_option Elab.async false
set_option linter.all false
set_option maxRecDepth 100000
set_option maxHeartbeats 4000000
namespace Kx
open PySem PySem.Spec L2
open PyProof.Rows (envOfC)
abbrev prLBack : Prm (Nat × List Nat) := .fn (fun x => [iD x.1, .d (nL x.2)]) (fun x => x.1 ≤ 40 ∧ x.2.length ≤ 10 ∧ ∀ k ∈ x.2, k ≤ 100000) fun x => .d (intsD (fromN x.1 x.2))
abbrev prLForm : Prm (List Int × Nat × Nat) := .fn (fun x => [.d (intsD x.1), iD x.2.1, iD x.2.2]) (fun x => x.1.length ≤ 10 ∧ x.2.1 ≤ 10 ∧ x.2.2 ≤ 10 ∧ ∀ z ∈ x.1, -100000 ≤ z ∧ z ≤ 100000) fun x => iD (loadCntI x.1 x.2.2 x.2.1)
section
variable {C : Addr} {ρ : Ro} {t : TA} {E : XK}
theorem c_lback (a : Nat) (ns : List Nat) (h : EvA C t ρ [iD a, .d (nL ns)]) (h1 : a ≤ 40) (h2 : ns.length ≤ 10) (h3 : ∀ k ∈ ns, k ≤ 100000) : Ev C (tCall (prLBack.sp C) [] E t) ρ (.d (intsD (fromN a ns))) := ev_fn (args := prLBack.args) (pre := prLBack.pre) (a, ns) h ⟨h1, h2, h3⟩
theorem c_lform (N : List Int) (free size : Nat) (h : EvA C t ρ [.d (intsD N), iD free, iD size]) (h1 : N.length ≤ 10) (h2 : free ≤ 10) (h3 : size ≤ 10) (h4 : ∀ z ∈ N, -100000 ≤ z ∧ z ≤ 100000) : Ev C (tCall (prLForm.sp C) [] E t) ρ (iD (loadCntI N size free)) := ev_fn (args := prLForm.args) (pre := prLForm.pre) (N, free, size) h ⟨h1, h2, h3, h4⟩
end
section
variable {P : Program} {w : World} {K : PySem.W.Frag} {mg : Str → Option Value} {base : Heap} {C : Addr}
abbrev s__law_choose : Stmt := topS 53
abbrev N__law_choose : List Str := ["_law_top", "_law_many", "_law_total", "_law_k"]
theorem sc__law_choose : FnScope N__law_choose ["_law_top", "_law_many"] (defScope s__law_choose) := ⟨rfl, rfl, rfl, by decide +kernel, rfl, by decide +kernel, by decide +kernel⟩
theorem ok__law_choose {f : Addr} {fd : FuncData} (F : Fun K "_law_choose" "_law_choose" s__law_choose f fd) (m_range : mg "range" = none) :
    FnOk P w K mg base CX0 1 f fd ["_law_top", "_law_many"] (prChoose.sp C) := by
  refine def_ok F sc__law_choose (fun _ => rfl) (by decide) fun cdv A outer s H E hr => ?_
  have nd := sc__law_choose.nd
  refine ⟨_, (pss_cons (ps_if (pt_cmpR op_lt (pv 0) (pv 1) (nomark _)) (pss_one (ps_ret pe_int)) pss_nil)
  (pss_cons (ps_set (i := 2) nd rfl (.inl rfl) pe_int)
  (pss_cons (ps_for PassesOwn.never rfl (pi_range1 (by rfl) m_range (pa_cons (pv 1) pa_nil)) (pg_name (i := 3) nd rfl (.inl rfl)) (pss_one (ps_set (i := 2) nd rfl (.inl rfl) (pe_op op_fdiv (pe_op op_mul (pv 2) (pe_op op_sub (pv 0) (pv 3))) (pe_op op_add (pv 3) pe_int)))))
  (pss_one (ps_ret (pv 2)))))), ?_⟩
  intro y U σ Q S L hp q
  obtain ⟨top, many⟩ := y
  obtain ⟨h1, h2, h3⟩ := hp
  refine q_when L S (evt_test (ev_op (ev_var rfl) (ev_var rfl) (rv_B0 rfl))) (fun hb U1 H1 g1 L1 => ?_) (fun hb U1 H1 g1 L1 => ?_)
  · have hlt : top < (many : Int) := of_decide_eq_true hb
    refine s_ret L1 g1.uh ev_int fun v U2 H2 g2 r2 => q v _ U2 H2 (g1.trans g2) r2 ?_
    show iD 0 = iD (chooseI top many)
    unfold chooseI
    rw [if_pos hlt]
  · have hge : ¬ top < (many : Int) := of_decide_eq_false hb
    refine q_asg L1 g1.uh ev_int fun σ2 U2 H2 g2 L2 => ?_
    refine q_for (List.range many) (fun (j : Nat) => iD j) (fun i => [some (iD top), some (iD many), some (iD ((List.range i).foldl (fun (t : Int) (k : Nat) => t * (top - k) / (k + 1)) 1)), none]) (fun i U' H' => Gr [] U H U' H') L2 g2.uh
      (evi_rngN (eva_cons (ev_var rfl) eva_nil) (by omega)) (.eq (.eq (.eq (.no .nil)))) (fun _ _ g3 => (g1.trans g2).trans g3) ?_ ?_
    · intro i a Ub U3 H3 U4 H4 ea g3 _ sb g4
      obtain ⟨hi, rfl⟩ := rng_at ea
      refine ⟨_, _, evg_name, fun σ4 L4 => ?_⟩
      refine s_asg L4 g4.uh (ev_op (ev_op (ev_var rfl) (ev_op (ev_var rfl) (ev_var rfl) (rv_I0 rfl)) (rv_I (.inr (by constructor <;> omega)) rfl)) (ev_op (ev_var rfl) ev_int (rv_I0 rfl)) (rv_I ⟨by omega, by omega⟩ rfl)) fun σ5 U5 H5 g5 L5 => ?_
      refine Nxt.of sb g5 (L5.sub (.eq (.eq ?_))) ((g3.trans g4).trans g5)
      rw [List.range_succ, List.foldl_append]
      exact .eq (.no .nil)
    · intro U3 H3 σ3 L3 s1 s2 g3
      rw [List.length_range] at L3
      refine s_ret L3 s2 (ev_var rfl) fun v U4 H4 g4 r4 => q v _ U4 H4 (g3.trans g4) r4 ?_
      show iD _ = iD (chooseI top many)
      unfold chooseI
      rw [if_neg hge]
abbrev s__law_exact : Stmt := topS 54
abbrev N__law_exact : List Str := ["_law_told", "_law_due", "_law_k"]
theorem sc__law_exact : FnScope N__law_exact ["_law_told", "_law_due"] (defScope s__law_exact) := ⟨rfl, rfl, rfl, by decide +kernel, rfl, by decide +kernel, by decide +kernel⟩
theorem ok__law_exact1 {f : Addr} {fd : FuncData} (F : Fun K "_law_exact" "_law_exact" s__law_exact f fd) (m_isinstance : mg "isinstance" = none) (m_len : mg "len" = none) (m_range : mg "range" = none) (m_str : mg "str" = none) (m_tuple : mg "tuple" = none) (F__law_exact : Has P w K mg base "_law_exact" 1 ["_law_told", "_law_due"] [] spNo) (F__law_whole : Has P w K mg base "_law_whole" 1 ["_law_thing"] [] (prLWhole.sp C)) :
    FnOk P w K mg base CX0 2 f fd ["_law_told", "_law_due"] (prExI.sp C) := by
  refine def_ok F sc__law_exact (fun _ => rfl) (by decide) fun cdv A outer s H E hr => ?_
  have nd := sc__law_exact.nd
  refine ⟨_, (pss_cons (ps_if (pt_cmp (pc_isN (pv 1)) rfl) (pss_one (ps_ret (pe_cmp (pc_isN (pv 0)) rfl))) pss_nil)
  (pss_cons (ps_if (pt_val (pe_callB (isi_K (K := K)) (by rfl) m_isinstance (by decide +kernel) (pa_cons (pv 1) (pa_cons (pe_bltn (v := .ty "str") (u := .type "str") (by rfl) m_str (by decide +kernel) rfl) pa_nil)))) (pss_one (ps_ret (pe_and (pe_callB (isi_K (K := K)) (by rfl) m_isinstance (by decide +kernel) (pa_cons (pv 0) (pa_cons (pe_bltn (v := .ty "str") (u := .type "str") (by rfl) m_str (by decide +kernel) rfl) pa_nil))) (pe_one (pe_cmpR (eqD_K (K := K) (hu64 hr)) (pv 0) (pv 1) (nomark _)))))) pss_nil)
  (pss_cons (ps_if (pt_val (pe_callB (isi_K (K := K)) (by rfl) m_isinstance (by decide +kernel) (pa_cons (pv 1) (pa_cons (pe_bltn (v := .ty "tuple") (u := .type "tuple") (by rfl) m_tuple (by decide +kernel) rfl) pa_nil)))) (pss_cons (ps_if (PW.pt (pw_or (pt_not (pt_val (pe_callB (isi_K (K := K)) (by rfl) m_isinstance (by decide +kernel) (pa_cons (pv 0) (pa_cons (pe_bltn (v := .ty "tuple") (u := .type "tuple") (by rfl) m_tuple (by decide +kernel) rfl) pa_nil))))) (pw_or1 (pt_cmpR op_ne (pe_callB (len_K (K := K)) (by rfl) m_len (by decide +kernel) (pa_cons (pv 0) pa_nil)) (pe_callB (len_K (K := K)) (by rfl) m_len (by decide +kernel) (pa_cons (pv 1) pa_nil)) (nomark _))))) (pss_one (ps_ret pe_bl)) pss_nil)
  (pss_one (ps_ret (pe_cmpR (eqD_K (K := K) (hu64 hr)) (pe_lc (own := [("_law_k", 2)]) (g := gName 2) rfl nd (pi_range1 (by rfl) m_range (pa_cons (pe_callB (len_K (K := K)) (by rfl) m_len (by decide +kernel) (pa_cons (pv 1) pa_nil)) pa_nil)) (blkOk_by (own := [("_law_k", 2)]) (N := N__law_exact) (sc := defScope s__law_exact) (by decide +kernel)) (fun _ _ _ _ _ => (pg_name (i := 2) nd rfl (.inl rfl))) (fun _ _ _ _ _ => pts_one (pt_not (pt_val (pe_fn F__law_exact (hr.mono (by decide)) (by rfl) (pa_cons (pe_ix (ix_tupK (K := K)) (pv 0) (pv 2) (fun _ _ => rfl)) (pa_cons (pe_ix (ix_tupK (K := K)) (pv 1) (pv 2) (fun _ _ => rfl)) pa_nil)))))) (fun _ _ _ _ _ => (pv 2))) (pe_lst pa_nil) (nomark _))))) pss_nil)
  (pss_one (ps_ret (pe_and (pe_fn F__law_whole (hr.mono (by decide)) (by rfl) (pa_cons (pv 0) pa_nil)) (pe_one (pe_cmpR (eqD_K (K := K) (hu64 hr)) (pv 0) (pv 1) (nomark _))))))))), ?_⟩
  intro y U σ Q S L hp q
  obtain ⟨a, b⟩ := y
  have L : Lo C U σ [some (iD a), some (iD b), none] := L
  refine q_skip L S (evt_B (ev_isN (d := iD b) (ev_var rfl) (fun h => nomatch h) fun _ => rfl)) fun U1 H1 g1 L1 => ?_
  refine q_skip L1 g1.uh (evt_B (ev_isi (t := "int") (b := false) (ev_var rfl) rfl (by decide +kernel))) fun U2 H2 g2 L2 => ?_
  refine q_skip L2 g2.uh (evt_B (ev_isi (t := "int") (b := false) (ev_var rfl) rfl (by decide +kernel))) fun U3 H3 g3 L3 => ?_
  refine s_ret L3 g3.uh (ev_andV (p := true) (d := bD (decide (a = b))) (c_lwhole a (eva_cons (ev_var rfl) eva_nil)) (fun _ => ev_op (ev_var rfl) (ev_var rfl) (rv_eqD (d := .int a) (e := .int b) rfl rfl (PySem.W.Datum.eqv a b))) (fun h => nomatch h)) fun v U4 H4 g4 r4 => q v _ U4 H4 (((g1.trans g2).trans g3).trans g4) r4 rfl
abbrev s__law_more : Stmt := topS 55
abbrev N__law_more : List Str := ["_law_load", "_law_tie", "_law_things", "_law_clubs"]
theorem sc__law_more : FnScope N__law_more ["_law_load", "_law_tie"] (defScope s__law_more) := ⟨rfl, rfl, rfl, by decide +kernel, rfl, by decide +kernel, by decide +kernel⟩
theorem ok__law_more {f : Addr} {fd : FuncData} (F : Fun K "_law_more" "_law_more" s__law_more f fd) (m_list : mg "list" = none) (m_tuple : mg "tuple" = none) :
    FnOk P w K mg base CX0 1 f fd ["_law_load", "_law_tie"] (prLMore.sp C) := by
  refine def_ok F sc__law_more (fun _ => rfl) (by decide) fun cdv A outer s H E hr => ?_
  have nd := sc__law_more.nd
  refine ⟨_, (pss_cons (ps_set (i := 2) nd rfl (.inl rfl) (pe_callTy (list_K (K := K)) (by rfl) m_list (by decide +kernel) (pa_cons (pe_ix (ix_tupK (K := K)) (pv 0) pe_int (fun _ _ => rfl)) pa_nil)))
  (pss_cons (ps_set (i := 3) nd rfl (.inl rfl) (pe_callTy (list_K (K := K)) (by rfl) m_list (by decide +kernel) (pa_cons (pe_ix (ix_tupK (K := K)) (pv 0) pe_int (fun _ _ => rfl)) pa_nil)))
  (pss_cons (ps_asg (pe_op op_add (pe_ix (ix_listK (K := K)) (pv 2) (pe_ix (ix_tupK (K := K)) (pv 1) pe_int (fun _ _ => rfl)) (fun _ _ => rfl)) pe_int) (pg_sub (pv 2) (pe_ix (ix_tupK (K := K)) (pv 1) pe_int (fun _ _ => rfl)) set_list))
  (pss_cons (ps_asg (pe_op op_add (pe_ix (ix_listK (K := K)) (pv 3) (pe_ix (ix_tupK (K := K)) (pv 1) pe_int (fun _ _ => rfl)) (fun _ _ => rfl)) pe_int) (pg_sub (pv 3) (pe_ix (ix_tupK (K := K)) (pv 1) pe_int (fun _ _ => rfl)) set_list))
  (pss_one (ps_ret (pe_tup (pa_cons (pe_callTy (tuple_K (K := K)) (by rfl) m_tuple (by decide +kernel) (pa_cons (pv 2) pa_nil)) (pa_cons (pe_callTy (tuple_K (K := K)) (by rfl) m_tuple (by decide +kernel) (pa_cons (pv 3) pa_nil)) pa_nil))))))))), ?_⟩
  intro y U σ Q S L hp q
  obtain ⟨⟨a, b⟩, ⟨i, j⟩⟩ := y
  obtain ⟨h1, h2⟩ : i < a.length ∧ j < b.length := hp
  have L : Lo C U σ [some (.d (loadD (a, b))), some (.d (pairD (i, j))), none, none] := L
  refine q_asgN L S (evn_list (eva_cons (ev_op (ev_var rfl) ev_int (rv_ixT (ds := [nT a, nT b]) (c := nT a) rfl)) eva_nil) (.inr rfl)) fun x σ1 U1 H1 g1 hx m1 L1 => ?_
  refine q_asgN L1 g1.uh (evn_list (eva_cons (ev_op (ev_var rfl) ev_int (rv_ixT (ds := [nT a, nT b]) (c := nT b) rfl)) eva_nil) (.inr rfl)) fun y σ2 U2 H2 g2 hy m2 L2 => ?_
  have xy : x ≠ y := fun e => m1.here (by rw [e]; exact hy)
  have hy0 : H y = none := g1.same.free hy
  have ix : ∀ {l : List Nat} {k : Nat}, k < l.length → ixN (l.map nI).length (k : Int) = some k := fun {l k} h => by
    unfold ixN
    rw [if_pos (by omega), if_pos (by rw [List.length_map]; omega), Int.toNat_natCast]
  refine q_setLP 2 L2 g2.uh (m1.step g2 (by simp)) rfl (ev_op (ev_op (ev_var rfl) (ev_op (ev_var rfl) ev_int (rv_ixT (ds := [nI i, nI j]) (c := nI i) rfl)) (rv_ixL (at_map (f := nI) (getD_at (d := 0) h1)))) ev_int (rv_I0 rfl)) (ev_var rfl) (ev_op (ev_var rfl) ev_int (rv_ixT (ds := [nI i, nI j]) (c := nI i) rfl)) (ix h1) fun U3 H3 g3 m3 L3 => ?_
  refine q_setLP 3 L3 g3.uh (m2.step g3 (by simpa using Ne.symm xy)) rfl (ev_op (ev_op (ev_var rfl) (ev_op (ev_var rfl) ev_int (rv_ixT (ds := [nI i, nI j]) (c := nI j) rfl)) (rv_ixL (at_map (f := nI) (getD_at (d := 0) h2)))) ev_int (rv_I0 rfl)) (ev_var rfl) (ev_op (ev_var rfl) ev_int (rv_ixT (ds := [nI i, nI j]) (c := nI j) rfl)) (ix h2) fun U4 H4 g4 m4 L4 => ?_
  have m5 := m3.step g4 (by simpa using xy)
  have gg : Gr [x, y] U H U4 H4 := ((g1.trans g2).any.trans (g3.wide (by simp))).trans (g4.wide (by simp))
  obtain ⟨U5, g5, e5, L5, z5⟩ := ML.tell 2 S gg hx m5 L4 rfl
  have m6 : ML U5 H4 y ((b.map nI).set j (.int ((b.getD j 0 : Int) + 1))) := by
    obtain ⟨n, vs, hv, t⟩ := m4
    exact ⟨by rw [z5 y (Ne.symm xy)]; exact n, vs, hv, t.mono e5⟩
  obtain ⟨U6, g6, e6, L6, z6⟩ := ML.tell 3 S g5 hy0 m6 L5 rfl
  have inc : ∀ (l : List Nat) (k : Nat), (l.map nI).set k (.int ((l.getD k 0 : Int) + 1)) = (incN l k).map nI := fun l k => by
    unfold incN
    rw [List.map_set]
    rfl
  rw [inc a i, inc b j] at L6
  refine s_ret L6 g6.uh (ev_tup (ds := [nT (incN a i), nT (incN b j)]) (eva_cons (ev_tuple (eva_cons (ev_var rfl) eva_nil) (.inl rfl)) (eva_cons (ev_tuple (eva_cons (ev_var rfl) eva_nil) (.inl rfl)) eva_nil)) (by simp)) fun v U7 H7 g7 r7 => q v _ U7 H7 ((g6.drop (by simp [hx, hy0])).trans g7) r7 rfl
end
end Kx
end
section
set_option Elab.async false
set_option linter.all false
set_option maxRecDepth 100000
set_option maxHeartbeats 4000000
namespace Kx
open PySem PySem.Spec L2
open PyProof.Rows (envOfC)
section
variable {P : Program} {w : World} {K : PySem.W.Frag} {mg : Str → Option Value} {base : Heap} {C : Addr}
theorem ok__law_exact2 {f : Addr} {fd : FuncData} (F : Fun K "_law_exact" "_law_exact" s__law_exact f fd) (m_isinstance : mg "isinstance" = none) (m_len : mg "len" = none) (m_range : mg "range" = none) (m_str : mg "str" = none) (m_tuple : mg "tuple" = none) (F__law_exact : Has P w K mg base "_law_exact" 2 ["_law_told", "_law_due"] [] (prExI.sp C)) (F__law_whole : Has P w K mg base "_law_whole" 1 ["_law_thing"] [] (prLWhole.sp C)) :
    FnOk P w K mg base CX0 3 f fd ["_law_told", "_law_due"] (prExT.sp C) := by
  refine def_ok F sc__law_exact (fun _ => rfl) (by decide) fun cdv A outer s H E hr => ?_
  have nd := sc__law_exact.nd
  refine ⟨_, (pss_cons (ps_if (pt_cmp (pc_isN (pv 1)) rfl) (pss_one (ps_ret (pe_cmp (pc_isN (pv 0)) rfl))) pss_nil)
  (pss_cons (ps_if (pt_val (pe_callB (isi_K (K := K)) (by rfl) m_isinstance (by decide +kernel) (pa_cons (pv 1) (pa_cons (pe_bltn (v := .ty "str") (u := .type "str") (by rfl) m_str (by decide +kernel) rfl) pa_nil)))) (pss_one (ps_ret (pe_and (pe_callB (isi_K (K := K)) (by rfl) m_isinstance (by decide +kernel) (pa_cons (pv 0) (pa_cons (pe_bltn (v := .ty "str") (u := .type "str") (by rfl) m_str (by decide +kernel) rfl) pa_nil))) (pe_one (pe_cmpR (eqD_K (K := K) (hu64 hr)) (pv 0) (pv 1) (nomark _)))))) pss_nil)
  (pss_cons (ps_if (pt_val (pe_callB (isi_K (K := K)) (by rfl) m_isinstance (by decide +kernel) (pa_cons (pv 1) (pa_cons (pe_bltn (v := .ty "tuple") (u := .type "tuple") (by rfl) m_tuple (by decide +kernel) rfl) pa_nil)))) (pss_cons (ps_if (PW.pt (pw_or (pt_not (pt_val (pe_callB (isi_K (K := K)) (by rfl) m_isinstance (by decide +kernel) (pa_cons (pv 0) (pa_cons (pe_bltn (v := .ty "tuple") (u := .type "tuple") (by rfl) m_tuple (by decide +kernel) rfl) pa_nil))))) (pw_or1 (pt_cmpR op_ne (pe_callB (len_K (K := K)) (by rfl) m_len (by decide +kernel) (pa_cons (pv 0) pa_nil)) (pe_callB (len_K (K := K)) (by rfl) m_len (by decide +kernel) (pa_cons (pv 1) pa_nil)) (nomark _))))) (pss_one (ps_ret pe_bl)) pss_nil)
  (pss_one (ps_ret (pe_cmpR (eqD_K (K := K) (hu64 hr)) (pe_lc (own := [("_law_k", 2)]) (g := gName 2) rfl nd (pi_range1 (by rfl) m_range (pa_cons (pe_callB (len_K (K := K)) (by rfl) m_len (by decide +kernel) (pa_cons (pv 1) pa_nil)) pa_nil)) (blkOk_by (own := [("_law_k", 2)]) (N := N__law_exact) (sc := defScope s__law_exact) (by decide +kernel)) (fun _ _ _ _ _ => (pg_name (i := 2) nd rfl (.inl rfl))) (fun _ _ _ _ _ => pts_one (pt_not (pt_val (pe_fn F__law_exact (hr.mono (by decide)) (by rfl) (pa_cons (pe_ix (ix_tupK (K := K)) (pv 0) (pv 2) (fun _ _ => rfl)) (pa_cons (pe_ix (ix_tupK (K := K)) (pv 1) (pv 2) (fun _ _ => rfl)) pa_nil)))))) (fun _ _ _ _ _ => (pv 2))) (pe_lst pa_nil) (nomark _))))) pss_nil)
  (pss_one (ps_ret (pe_and (pe_fn F__law_whole (hr.mono (by decide)) (by rfl) (pa_cons (pv 0) pa_nil)) (pe_one (pe_cmpR (eqD_K (K := K) (hu64 hr)) (pv 0) (pv 1) (nomark _))))))))), ?_⟩
  intro y U σ Q S L hp q
  obtain ⟨a, b⟩ := y
  have few : b.length ≤ 1000 := hp
  have L : Lo C U σ [some (.d (intsD a)), some (.d (intsD b)), none] := L
  refine q_skip L S (evt_B (ev_isN (d := .d (intsD b)) (ev_var rfl) (fun h => nomatch h) fun _ => rfl)) fun U1 H1 g1 L1 => ?_
  refine q_skip L1 g1.uh (evt_B (ev_isi (t := "tuple") (b := false) (ev_var rfl) rfl (by decide +kernel))) fun U2 H2 g2 L2 => ?_
  refine q_when (b := true) L2 g2.uh (evt_B (ev_isi (t := "tuple") (b := true) (ev_var rfl) rfl (by decide +kernel))) (fun _ U3 H3 g3 L3 => ?_) (fun h => nomatch h)
  refine q_when (b := decide (a.length ≠ b.length)) L3 g3.uh ((evt_or (evt_not (evt_B (ev_isi (t := "tuple") (b := true) (ev_var rfl) rfl (by decide +kernel)))) fun _ => evt_test (ev_op (ev_call (eva_cons (ev_var rfl) eva_nil) rc_lenTM) (ev_call (eva_cons (ev_var rfl) eva_nil) rc_lenTM) (rv_neI rfl))).to ?_) (fun hb U4 H4 g4 L4 => ?_) (fun hb U4 H4 g4 L4 => ?_)
  · show (!true || !decide ((a.length : Int) = b.length)) = decide (a.length ≠ b.length)
    rw [Bool.not_true, Bool.false_or, ← decide_not]
    exact decide_eq_decide.mpr (by omega)
  · have ne : a.length ≠ b.length := of_decide_eq_true hb
    refine s_ret L4 g4.uh ev_bl fun v U5 H5 g5 r5 => q v _ U5 H5 ((((g1.trans g2).trans g3).trans g4).trans g5) r5 ?_
    show bD false = bD (decide (a = b))
    rw [decide_eq_false fun e => ne (by rw [e])]
  · have eq : a.length = b.length := Decidable.of_not_not (of_decide_eq_false hb)
    have bad : ∀ (l : List Nat), PyData.eqv (.list (l.map nI)) (.list []) = decide (l = []) := fun l => by
      have h := PySem.W.Datum.eqv (asI l) []
      have e : PySem.W.Datum.toD (asI l) = .list (l.map nI) := by
        show PyData.list ((asI l).map _) = _
        unfold asI
        rw [List.map_map]
        rfl
      rw [e] at h
      refine h.trans (decide_eq_decide.mpr ?_)
      unfold asI
      exact List.map_eq_nil_iff
    have fin : decide (((List.range b.length).filter fun k => !decide (a.getD k 0 = b.getD k 0)) = []) = decide (a = b) := by
      apply decide_eq_decide.mpr
      rw [List.filter_eq_nil_iff]
      constructor
      · intro h
        apply List.ext_getElem eq
        intro i h1 h2
        have z := h i (List.mem_range.mpr h2)
        simp only [Bool.not_eq_true', decide_eq_false_iff_not, Decidable.not_not, List.getD_eq_getElem?_getD, List.getElem?_eq_getElem h1, List.getElem?_eq_getElem h2] at z
        exact z
      · rintro rfl i hi
        simp
    refine s_ret L4 g4.uh (ev_op ((evn_lcIf (js := [2]) (List.range b.length) (fun (k : Nat) => iD k) (fun k => !decide (a.getD k 0 = b.getD k 0)) (fun k => nI k) (evi_rngN (eva_cons (ev_call (eva_cons (ev_var rfl) eva_nil) rc_lenTM) eva_nil) (by omega)) (by rw [List.length_range]; omega) (by simp)
      (fun k hk => ⟨_, evg_name, evt_not (evt_B (c_exI (a.getD k 0) (b.getD k 0) (eva_cons (ev_op (ev_var rfl) (ev_var rfl) (rv_ixT (at_map (getD_at (d := 0) (by rw [eq]; exact List.mem_range.mp hk))))) (eva_cons (ev_op (ev_var rfl) (ev_var rfl) (rv_ixT (at_map (getD_at (d := 0) (List.mem_range.mp hk))))) eva_nil)))), fun _ => ev_var rfl⟩)).ev) (evn_lst (ds := []) eva_nil (by simp)).ev
      (rv_eqD (p := decide (a = b)) (shaped_nats _) (shaped_nats []) ((bad _).trans fin))) fun v U5 H5 g5 r5 => q v _ U5 H5 ((((g1.trans g2).trans g3).trans g4).trans g5) r5 rfl
abbrev s__law_back : Stmt := topS 57
abbrev N__law_back : List Str := ["_law_above", "_law_numbers", "_law_told", "_law_k", "_law_total", "_law_j", "_law_part", "_law_last"]
theorem sc__law_back : FnScope N__law_back ["_law_above", "_law_numbers"] (defScope s__law_back) := ⟨rfl, rfl, rfl, by decide +kernel, rfl, by decide +kernel, by decide +kernel⟩
theorem ok__law_back {f : Addr} {fd : FuncData} (F : Fun K "_law_back" "_law_back" s__law_back f fd) (m_int : mg "int" = none) (m_len : mg "len" = none) (m_range : mg "range" = none) (m_tuple : mg "tuple" = none) (F__law_choose : Has P w K mg base "_law_choose" 1 ["_law_top", "_law_many"] [] (prChoose.sp C)) :
    FnOk P w K mg base CX0 2 f fd ["_law_above", "_law_numbers"] (prLBack.sp C) := by
  refine def_ok F sc__law_back (fun _ => rfl) (by decide) fun cdv A outer s H E hr => ?_
  have nd := sc__law_back.nd
  refine ⟨_, (pss_cons (ps_set (i := 2) nd rfl (.inl rfl) (pe_lst pa_nil))
  (pss_cons (ps_for PassesOwn.never rfl (pi_range1 (by rfl) m_range (pa_cons (pe_callB (len_K (K := K)) (by rfl) m_len (by decide +kernel) (pa_cons (pv 1) pa_nil)) pa_nil)) (pg_name (i := 3) nd rfl (.inl rfl)) (pss_cons (ps_set (i := 4) nd rfl (.inl rfl) pe_int)
  (pss_cons (ps_for PassesOwn.never rfl (pi_range1 (by rfl) m_range (pa_cons (pe_op op_add (pv 3) pe_int) pa_nil)) (pg_name (i := 5) nd rfl (.inl rfl)) (pss_cons (ps_set (i := 6) nd rfl (.inl rfl) (pe_op op_mul (pe_fn F__law_choose (hr.mono (by decide)) (by rfl) (pa_cons (pv 0) (pa_cons (pv 5) pa_nil))) (pe_ix (ix_listK (K := K)) (pv 1) (pe_op op_sub (pv 3) (pv 5)) (fun _ _ => rfl))))
  (pss_one (ps_set (i := 4) nd rfl (.inl rfl) (pe_ifExp (pt_cmpR op_eq (pe_op op_mod (pe_callTy call_int1 (by rfl) m_int (by decide +kernel) (pa_cons (pv 5) pa_nil)) pe_int) pe_int (nomark _)) (pe_op op_add (pv 4) (pv 6)) (pe_op op_sub (pv 4) (pv 6)))))))
  (pss_one (ps_expr (pe_bm PySem.F.plainAttrs_list PySem.F.slot_list_append PySem.F.type_list_append mt_append (pv 2) (pa_cons (pv 4) pa_nil)))))))
  (pss_cons (ps_set (i := 7) nd rfl (.inl rfl) (pe_callB (len_K (K := K)) (by rfl) m_len (by decide +kernel) (pa_cons (pv 2) pa_nil)))
  (pss_cons (ps_for PassesOwn.never rfl (pi_range1 (by rfl) m_range (pa_cons (pe_callB (len_K (K := K)) (by rfl) m_len (by decide +kernel) (pa_cons (pv 1) pa_nil)) pa_nil)) (pg_name (i := 3) nd rfl (.inl rfl)) (pss_one (ps_if (PW.pt (pw_and (pt_cmpR op_gt (pv 7) pe_int (nomark _)) (pw_and1 (pt_cmpR op_eq (pe_ix (ix_listK (K := K)) (pv 2) (pe_op op_sub (pv 7) pe_int) (fun _ _ => rfl)) pe_int (nomark _))))) (pss_one (ps_set (i := 7) nd rfl (.inl rfl) (pe_op op_sub (pv 7) pe_int))) pss_nil)))
  (pss_one (ps_ret (pe_callTy (tuple_K (K := K)) (by rfl) m_tuple (by decide +kernel) (pa_cons (pe_slice (slL_K (K := K)) (pv 2) po_none (po_some (pv 7))) pa_nil)))))))), ?_⟩
  intro y U σ Q S L hp q
  obtain ⟨a, ns⟩ := y
  obtain ⟨h1, h2, h3⟩ : a ≤ 40 ∧ ns.length ≤ 10 ∧ ∀ k ∈ ns, k ≤ 100000 := hp
  have L : Lo C U σ [some (iD a), some (.d (nL ns)), none, none, none, none, none, none] := L
  refine q_asgN L S (evn_lst (ds := []) eva_nil (by simp)) fun p σ1 U1 H1 g1 hp m1 L1 => ?_
  let st : Nat → List PyData := fun i => ((List.range i).map (altSum a ns)).map PyData.int
  refine q_for (List.range ns.length) (fun (j : Nat) => iD j) (fun i => [some (iD a), some (.d (nL ns)), some (.adr p), none, none, none, none, none]) (fun i U' H' => Gr [p] U H U' H' ∧ ML U' H' p (st i)) L1 g1.uh (evi_rngN (eva_cons (ev_call (eva_cons (ev_var rfl) eva_nil) rc_lenLM) eva_nil) (by omega))
    (.eq (.eq (.eq (.no (.no (.no (.no (.no .nil)))))))) (fun _ _ g => ⟨(g1.trans g).any, m1.step g (by simp)⟩) ?_ ?_
  · intro i k Ub U2 H2 U3 H3 ea ⟨g2, m2⟩ _ sb g3
    obtain ⟨hi, rfl⟩ := rng_at ea
    refine ⟨_, _, evg_name, fun σ3 L3 => ?_⟩
    refine q_asg L3 g3.uh ev_int fun σ4 U4 H4 g4 L4 => ?_
    let tot : Nat → Int := fun j => (List.range j).foldl (fun t j => if j % 2 = 0 then t + altPart a ns k j else t - altPart a ns k j) 0
    refine q_for (List.range (k + 1)) (fun (j : Nat) => iD j) (fun j => [some (iD a), some (.d (nL ns)), some (.adr p), some (iD k), some (iD (tot j)), none, none, none]) (fun j U' H' => Gr [] U3 H3 U' H') L4 g4.uh
      (evi_rngN (eva_cons ((ev_op (ev_var rfl) ev_int (rv_I0 rfl)).to (b := iD (k + 1 : Nat)) rfl) eva_nil) (by omega)) (.eq (.eq (.eq (.eq (.eq (.no (.no (.no .nil)))))))) (fun _ _ g => g4.trans g) ?_ ?_
    · intro j' j Ub2 U5 H5 U6 H6 eb g5 _ sb2 g6
      obtain ⟨hj, rfl⟩ := rng_at eb
      have bd := h3 _ (List.mem_of_getElem? (getD_at (d := 0) (show k - j < ns.length by omega)))
      have ix : atI (ns.map nI) ((k : Int) - j) = some (nI (ns.getD (k - j) 0)) := by
        have e : ((k : Int) - j) = ((k - j : Nat) : Int) := by omega
        rw [e]
        exact at_map (getD_at (by omega))
      refine ⟨_, _, evg_name, fun σ6 L6 => ?_⟩
      refine q_asg L6 g6.uh ((ev_op (c_choose a j (eva_cons (ev_var rfl) (eva_cons (ev_var rfl) eva_nil)) (by omega) (by omega) (by omega)) (ev_op (ev_var rfl) (ev_op (ev_var rfl) (ev_var rfl) (rv_I0 rfl)) (rv_ixL ix)) (rv_I (.inr (by constructor <;> omega)) rfl)).to (b := iD (altPart a ns k j)) rfl) fun σ7 U7 H7 g7 L7 => ?_
      refine s_asg L7 g7.uh (ev_if (p := decide (j % 2 = 0)) (d := iD (tot (j + 1))) (evt_test (ev_op (ev_op (ev_int1 (ev_var rfl)) ev_int (rv_I (by omega) rfl)) ev_int (rv_eqI (decide_eq_decide.mpr (by omega))))) (fun hb => ?_) (fun hb => ?_)) fun σ8 U8 H8 g8 L8 => ?_
      · refine (ev_op (ev_var rfl) (ev_var rfl) (rv_I0 rfl)).to (congrArg iD ?_)
        show tot j + altPart a ns k j = (List.range (j + 1)).foldl _ 0
        rw [List.range_succ, List.foldl_append]
        exact (if_pos (of_decide_eq_true hb)).symm
      · refine (ev_op (ev_var rfl) (ev_var rfl) (rv_I0 rfl)).to (congrArg iD ?_)
        show tot j - altPart a ns k j = (List.range (j + 1)).foldl _ 0
        rw [List.range_succ, List.foldl_append]
        exact (if_neg (of_decide_eq_false hb)).symm
      · exact nx_of (Nxt.of (M := []) sb2 (g7.trans g8) (L8.sub (.eq (.eq (.eq (.eq (.eq (.no (.no (.no .nil))))))))) ((g5.trans g6).trans (g7.trans g8)))
    · intro U5 H5 σ5 L5 s1 s2 g5
      have el : tot (List.range (k + 1)).length = altSum a ns k := by rw [List.length_range]; rfl
      rw [el] at L5
      refine s_app L5 s2 (ev_var rfl) (ev_var rfl) (m2.step (g3.trans g5) (by simp)) (by show (((List.range k).map _).map _).length < _; rw [List.length_map, List.length_map, List.length_range]; omega) fun U6 H6 g6 m6 L6 => ?_
      refine nx_of (Nxt.of (M := [p]) (U0 := U3) (H0 := H3) sb (g5.any.trans g6) (L6.sub (.eq (.eq (.eq (.no (.no (.no (.no (.no .nil))))))))) ⟨((g2.trans g3.any).trans g5.any).trans g6, ?_⟩)
      have e : st (k + 1) = st k ++ [PyData.int (altSum a ns k)] := by
        show ((List.range (k + 1)).map _).map _ = _
        rw [List.range_succ, List.map_append, List.map_append]
        rfl
      rw [e]
      exact m6
  · intro U2 H2 σ2 L2 s1 s2 ⟨g2, m2⟩
    have el : st (List.range ns.length).length = (backI a ns).map PyData.int := by rw [List.length_range]; rfl
    rw [el] at m2
    have ll : (List.range ns.length).length = ns.length := List.length_range
    generalize hB : backI a ns = B at *
    have lB : B.length = ns.length := by rw [← hB]; unfold backI; rw [List.length_map, List.length_range]
    obtain ⟨U3, g3, e3, L3, _⟩ := ML.tell 2 S g2 hp m2 L2 rfl
    have g3' : Gr [] U H U3 H2 := g3.drop (by simpa using hp)
    have L3 : Lo C U3 σ2 [some (iD a), some (.d (nL ns)), some (.d (intsL B)), none, none, none, none, none] := L3
    refine q_asg L3 g3.uh (ev_call (eva_cons (ev_var rfl) eva_nil) rc_lenLM) fun σ4 U4 H4 g4 L4 => ?_
    refine q_for (List.range ns.length) (fun (j : Nat) => iD j) (fun i => [some (iD a), some (.d (nL ns)), some (.d (intsL B)), none, none, none, none, some (iD (lastAt B i : Nat))]) (fun i U' H' => Gr [] U H U' H') L4 g4.uh (evi_rngN (eva_cons (ev_call (eva_cons (ev_var rfl) eva_nil) rc_lenLM) eva_nil) (by omega))
      (.eq (.eq (.eq (.no (.no (.no (.no (.eq .nil)))))))) (fun _ _ g => (g3'.trans g4).trans g) ?_ ?_
    · intro i k Ub U5 H5 U6 H6 ea g5 _ sb g6
      obtain ⟨hi, rfl⟩ := rng_at ea
      have lk := (lastAt_ok B k).2.1
      refine ⟨_, _, evg_name, fun σ6 L6 => ?_⟩
      generalize hr : lastAt B k = r at L6 lk
      have hs : lastAt B (k + 1) = stepLast B r := by rw [← hr]; rfl
      refine s_when L6 g6.uh (b := decide (1 < r) && decide (B.getD (r - 1) 0 = 0)) (evt_and (evt_test (ev_op (ev_var rfl) ev_int (rv_B0 (congrArg V.bl (decide_eq_decide.mpr (by omega)))))) fun h1r => evt_test (ev_op (ev_op (ev_var rfl) (ev_op (ev_var rfl) ev_int (rv_I0 rfl)) (rv_ixL (c := .int (B.getD (r - 1) 0)) ?_)) ev_int (rv_eqI rfl))) (fun hb U7 H7 g7 L7 => ?_) (fun hb U7 H7 g7 L7 => ?_)
      · have h1r := of_decide_eq_true h1r
        have e : ((r : Int) - 1) = ((r - 1 : Nat) : Int) := by omega
        rw [e]
        exact at_map (getD_at (by omega))
      · rw [Bool.and_eq_true] at hb
        have h1r := of_decide_eq_true hb.1
        have h2r := of_decide_eq_true hb.2
        refine s_asg L7 g7.uh ((ev_op (ev_var rfl) ev_int (rv_I0 rfl)).to (b := iD (r - 1 : Nat)) (congrArg iD (by omega))) fun σ8 U8 H8 g8 L8 => ?_
        refine nx_of (Nxt.of (M := []) sb (g7.trans g8) (L8.sub ?_) ((g5.trans g6).trans (g7.trans g8)))
        have e : stepLast B r = r - 1 := if_pos ⟨h1r, h2r⟩
        rw [hs, e]
        exact .eq (.eq (.eq (.no (.no (.no (.no (.eq .nil)))))))
      · refine nx_of (Nxt.of (M := []) sb g7 (L7.sub ?_) ((g5.trans g6).trans g7))
        have e : stepLast B r = r := if_neg fun z => by rw [decide_eq_true z.1, decide_eq_true z.2] at hb; cases hb
        rw [hs, e]
        exact .eq (.eq (.eq (.no (.no (.no (.no (.eq .nil)))))))
    · intro U5 H5 σ5 L5 s1 s2 g5
      rw [ll, ← lB, lastAt_end] at L5
      refine s_ret L5 s2 (ev_tuple (eva_cons (evn_slL (ev_var rfl) evo_none (evo_some (ev_var rfl))).ev eva_nil) (.inl rfl)) fun v U6 H6 g6 r6 => q v _ U6 H6 (g5.trans g6) r6 ?_
      rw [cut_take (by rw [List.length_map]; exact lastIx_le B _), ← List.map_take]
      show DV.d (.tuple _) = DV.d (intsD (stripI (backI a ns)))
      rw [hB]
      rfl
abbrev s__law_by_formula : Stmt := topS 58
abbrev N__law_by_formula : List Str := ["_law_inward", "_law_free", "_law_size_here", "_law_k"]
theorem sc__law_by_formula : FnScope N__law_by_formula ["_law_inward", "_law_free", "_law_size_here"] (defScope s__law_by_formula) := ⟨rfl, rfl, rfl, by decide +kernel, rfl, by decide +kernel, by decide +kernel⟩
theorem ok__law_by_formula {f : Addr} {fd : FuncData} (F : Fun K "_law_by_formula" "_law_by_formula" s__law_by_formula f fd) (m_len : mg "len" = none) (m_range : mg "range" = none) (m_sum : mg "sum" = none) (F__law_choose : Has P w K mg base "_law_choose" 1 ["_law_top", "_law_many"] [] (prChoose.sp C)) :
    FnOk P w K mg base CX0 2 f fd ["_law_inward", "_law_free", "_law_size_here"] (prLForm.sp C) := by
  refine def_ok F sc__law_by_formula (fun _ => rfl) (by decide) fun cdv A outer s H E hr => ?_
  have nd := sc__law_by_formula.nd
  refine ⟨_, (pss_one (ps_ret (pe_callB (sum_K (K := K) rfl) (by rfl) m_sum (by decide +kernel) (pa_cons (pe_lc (own := [("_law_k", 3)]) (g := gName 3) rfl nd (pi_range1 (by rfl) m_range (pa_cons (pe_callB (len_K (K := K)) (by rfl) m_len (by decide +kernel) (pa_cons (pv 0) pa_nil)) pa_nil)) (blkOk_by (own := [("_law_k", 3)]) (N := N__law_by_formula) (sc := defScope s__law_by_formula) (by decide +kernel)) (fun _ _ _ _ _ => (pg_name (i := 3) nd rfl (.inl rfl))) (fun _ _ _ _ _ => pts_nil) (fun _ _ _ _ _ => (pe_op op_mul (pe_ix (ix_tupK (K := K)) (pv 0) (pv 3) (fun _ _ => rfl)) (pe_fn F__law_choose (hr.mono (by decide)) (by rfl) (pa_cons (pe_op op_sub (pe_op op_add (pv 2) (pv 1)) (pv 3)) (pa_cons (pv 1) pa_nil)))))) pa_nil)))), ?_⟩
  intro y U σ Q S L hp q
  obtain ⟨N, free, size⟩ := y
  obtain ⟨h1, h2, h3, h4⟩ : N.length ≤ 10 ∧ free ≤ 10 ∧ size ≤ 10 ∧ ∀ z ∈ N, -100000 ≤ z ∧ z ≤ 100000 := hp
  have L : Lo C U σ [some (.d (intsD N)), some (iD free), some (iD size), none] := L
  refine s_ret L S (ev_call (eva_cons ((evn_lc (js := [3]) (List.range N.length) (fun (k : Nat) => iD k) (fun k => PyData.int (N.getD k 0 * chooseI ((size : Int) + free - k) free)) (evi_rngN (eva_cons (ev_call (eva_cons (ev_var rfl) eva_nil) rc_lenTM) eva_nil) (by omega)) (by rw [List.length_range]; omega) (by simp)
    (fun k hk => ⟨_, evg_name, ev_op (ev_op (ev_var rfl) (ev_var rfl) (rv_ixT (at_map (getD_at (d := 0) (List.mem_range.mp hk))))) (c_choose ((size : Int) + free - k) free (eva_cons (ev_op (ev_op (ev_var rfl) (ev_var rfl) (rv_I0 rfl)) (ev_var rfl) (rv_I0 rfl)) (eva_cons (ev_var rfl) eva_nil)) (by have := List.mem_range.mp hk; omega) (by have := List.mem_range.mp hk; omega) (by omega)) (rv_I (.inl (by have := h4 _ (List.mem_of_getElem? (getD_at (d := 0) (List.mem_range.mp hk))); constructor <;> omega)) rfl)⟩)).ev.to (b := .d (intsL ((List.range N.length).map fun (k : Nat) => N.getD k 0 * chooseI ((size : Int) + free - k) free))) ?_) eva_nil) rc_sum) fun v U1 H1 g1 r1 => q v _ U1 H1 g1 r1 rfl
  unfold intsL
  rw [List.map_map]
  rfl
end
end Kx
end
section
set_option Elab.async false
set_option linter.all false
set_option maxRecDepth 100000
set_option maxHeartbeats 4000000
namespace Kx
open PySem PySem.Spec L2
open PyProof.Rows (envOfC)
/-- a web drawn -/
def spDrawn : Sp := fun vs H Q _ => ∃ (p : Addr) (U : Hp), vs = [.ref p, .int 4, .int 4, .int 9] ∧ Same U H ∧ HandOk U H p ∧ ∀ (n m : Nat) (ts : List (Nat × Nat)) v U' H', Drawn n m ts → Gr [p] U H U' H' → HandOk U' H' p → Td U' v (.tuple [nI n, nI m, .list (ts.map pairD)]) → Q v H'
theorem len_spDrawn {vs : List V} {H : Hp} {Q : VK} {E : XK} (h : spDrawn vs H Q E) : vs.length = 4 := by
  obtain ⟨p, U, rfl, _⟩ := h
  rfl
section
variable {C : Addr} {K : PySem.W.Frag} {ρ : Ro} {te tb : TE} {E : XK} {σ : L2.St} {U H : Hp} {p : Addr} {n j : Nat} {D : Ends} {tz : TS}
/-- x = _law_take(hand, e) -/
theorem q_take (L : Lo C U σ ρ) (S : Same U H) (hh : Ev C te ρ (.adr p)) (ho : HandOk U H p) (hn : 0 < n) (hn2 : n ≤ 1000) (he : ∀ (U1 H1 : Hp), Gr [] U H U1 H1 → Lo C U1 σ ρ → ∀ Q : VK, (∀ U2 H2, Gr [] U1 H1 U2 H2 → Q (.int n) H2) → tb σ H1 Q)
    (k : ∀ (z : Nat) σ' U' H', z < n → Gr [p] U H U' H' → HandOk U' H' p → Lo C U' σ' (ρ.set j (some (iD z))) → tz D σ' H') : tSeq (tAsg (tCall spTake [] E (tCons te (tCons tb tNil))) (gName j)) tz D σ H :=
  show tCall spTake [] E (tCons te (tCons tb tNil)) σ H _ from run_take L S hh ho hn hn2 he fun z U' H' hz g h L' => k z _ U' H' hz g h (L'.set (.int z))
/-- x = _law_size(hand, e) -/
theorem q_size (L : Lo C U σ ρ) (S : Same U H) (hh : Ev C te ρ (.adr p)) (ho : HandOk U H p) (hn : 1 ≤ n) (hn2 : n ≤ 100) (he : Ev C tb ρ (iD n)) (k : ∀ (z : Nat) σ' U' H', 1 ≤ z → z ≤ n → Gr [p] U H U' H' → HandOk U' H' p → Lo C U' σ' (ρ.set j (some (iD z))) → tz D σ' H') :
    tSeq (tAsg (tCall spSize [] E (tCons te (tCons tb tNil))) (gName j)) tz D σ H := by
  show te σ H _
  refine hh σ U H L S _ fun v U1 H1 g1 r1 => ?_
  obtain rfl : v = .ref p := r1
  refine he σ U1 H1 (L.mono g1.uu) g1.uh _ fun w U2 H2 g2 r2 => ?_
  cases Td.toInt r2
  have g := g1.trans g2
  exact ⟨p, U2, n, rfl, g.uh, ho.step g (by simp), hn, hn2, fun z U3 H3 h1 h2 g3 h3 => k z _ U3 H3 h1 h2 (g.any.trans g3) h3 ((L.mono (g.any.trans g3).uu).set (.int z))⟩
/-- x = [a new list, a new list] -/
theorem q_two {ta : TE} {d0 d1 : List PyData} (L : Lo C U σ ρ) (S : Same U H) (h0 : EvN C ta ρ d0) (h1 : EvN C tb ρ d1) (k : ∀ q0 q1 σ' U' H', Gr [] U H U' H' → H q0 = none → H q1 = none → q0 ≠ q1 → ML U' H' q0 d0 → ML U' H' q1 d1 → Lo C U' σ' (ρ.set j (some (.adrs [q0, q1]))) → tz D σ' H') :
    tSeq (tAsg (tLst (tCons ta (tCons tb tNil))) (gName j)) tz D σ H := by
  show ta σ H _
  refine h0 σ U H L S _ fun q0 v0 U1 H1 g1 hq0 u0 e0 t0 => ?_
  refine h1 σ U1 H1 (L.mono g1.uu) g1.uh _ fun q1 v1 U2 H2 g2 hq1 u1 e1 t1 => ⟨by show 2 ≤ sizeLine; decide, fun po hpo => ?_⟩
  have m0 : ML U1 H1 q0 d0 := ⟨u0, v0, e0, t0⟩
  have m1 : ML U2 H2 q1 d1 := ⟨u1, v1, e1, t1⟩
  have g3 : Gr [] U2 H2 (upd U2 po (.lst [.ref q0, .ref q1])) (upd H2 po (.lst [.ref q0, .ref q1])) := Gr.new g2.uh hpo
  have g := (g1.trans g2).trans g3
  exact k q0 q1 _ _ _ g hq0 (g1.same.free hq1) (fun e => m0.here (by rw [e]; exact hq1)) (m0.step (g2.trans g3) (by simp)) (m1.step g3 (by simp)) ((L.mono g.uu).set (d := .adrs [q0, q1]) ⟨po, rfl, upd_same⟩)
/-- a, b = xs.pop(_law_take(hand, len(xs))), pairs -/
theorem q_pop2 {to : TE} {x : Addr} {l : List (Nat × Nat)} {j1 j2 : Nat} (i : Nat) (L : Lo C U σ ρ) (S : Same U H) (hx : Ev C to ρ (.adr x)) (m : ML U H x (l.map pairD)) (hi : ρ[i]? = some (some (.adr x))) (hh : Ev C te ρ (.adr p)) (ho : HandOk U H p) (ne : x ≠ p) (h0 : l ≠ []) (h1 : l.length ≤ 1000) (hl : Ev C tb (ρ.set i (some (.d (.list (l.map pairD))))) (iD l.length))
    (k : ∀ (z s y : Nat) σ' U' H', l[z]? = some (s, y) → Gr [p, x] U H U' H' → HandOk U' H' p → ML U' H' x ((l.eraseIdx z).map pairD) → Lo C U' σ' ((ρ.set j1 (some (iD s))).set j2 (some (iD y))) → tz D σ' H') :
    tSeq (tAsg (tBM K "list" rPopAt to (tCons (tCall spTake [] E (tCons te (tCons tb tNil))) tNil)) (gTup K 2 (gCons (gName j1) (gCons (gName j2) gNil)))) tz D σ H := by
  show tBM K "list" rPopAt to _ σ H _
  refine run_pop i L S hx m hi hh ho ne (by simpa using h0) (by rw [List.length_map]; exact h1) (by rw [List.length_map]; exact hl) fun z d v U1 H1 hz g1 ho1 m1 tv L1 => ?_
  rw [List.getElem?_map] at hz
  obtain ⟨⟨s, y⟩, hz', rfl⟩ := Option.map_eq_some_iff.mp hz
  refine evg_pair (C := C) (c := nI s) (e := nI y) σ U1 H1 v L1 g1.uh tv _ fun σ' L' _ _ => k z s y σ' U1 H1 hz' g1 ho1 ?_ L'
  rw [← map_erase]
  exact m1
/-- x = xs[_law_take(hand, len(xs))] -/
theorem q_pick {to : TE} {x : Addr} {l : List Nat} (i : Nat) (L : Lo C U σ ρ) (S : Same U H) (hx : Ev C to ρ (.adr x)) (m : ML U H x (l.map nI)) (hi : ρ[i]? = some (some (.adr x))) (hh : Ev C te ρ (.adr p)) (ho : HandOk U H p) (ne : x ≠ p) (h0 : l ≠ []) (h1 : l.length ≤ 1000) (hl : Ev C tb (ρ.set i (some (.d (.list (l.map nI))))) (iD l.length))
    (k : ∀ (y : Nat) σ' U' H', y ∈ l → Gr [p] U H U' H' → HandOk U' H' p → Lo C U' σ' (ρ.set j (some (iD y))) → tz D σ' H') : tSeq (tAsg (tOp (rIxL K) to (tCall spTake [] E (tCons te (tCons tb tNil)))) (gName j)) tz D σ H := by
  show to σ H _
  refine hx σ U H L S _ fun v U1 H1 g1 r1 => ?_
  obtain rfl : v = .ref x := r1
  have m1 := m.step g1 (by simp)
  show tCall spTake [] E (tCons te (tCons tb tNil)) σ H1 _
  refine run_take (L.mono g1.uu) g1.uh hh (ho.step g1 (by simp)) (List.length_pos_iff.mpr h0) h1 (arg_priv i m1 hi hl) fun z U2 H2 hz g2 h2 L2 => ?_
  obtain ⟨n2, vs2, hx2, t2⟩ := m1.step g2 (by simpa using ne)
  obtain ⟨w, a1, a2⟩ := t2.get (i := z) (d := nI (l.getD z 0)) (by rw [List.getElem?_map, getD_at (d := 0) hz]; rfl)
  cases Td.toInt a2
  have len := t2.length
  rw [List.length_map] at len
  refine ⟨x, vs2, z, _, rfl, rfl, SqL.of hx2, ?_, k _ _ U2 H2 (List.mem_of_getElem? (getD_at (d := 0) hz)) (g1.any.trans g2) h2 (L2.set (.int _))⟩
  unfold atI ixN
  rw [if_pos (by omega), if_pos (by omega)]
  exact a1
/-- if _law_take(hand, e) < x -/
theorem s_ifTake {tx : TE} {c : Int} {tu tw : TS} (L : Lo C U σ ρ) (S : Same U H) (hh : Ev C te ρ (.adr p)) (ho : HandOk U H p) (hn : 0 < n) (hn2 : n ≤ 1000) (he : Ev C tb ρ (iD n)) (hx : Ev C tx ρ (iD c))
    (h1 : ∀ U' H', Gr [p] U H U' H' → HandOk U' H' p → Lo C U' σ ρ → tu D σ H') (h2 : ∀ U' H', Gr [p] U H U' H' → HandOk U' H' p → Lo C U' σ ρ → tw D σ H') : tIfS (tTest (tOp (rI0 fun i j => .bl (decide (i < j))) (tCall spTake [] E (tCons te (tCons tb tNil))) tx)) tu tw D σ H := by
  show tCall spTake [] E (tCons te (tCons tb tNil)) σ H _
  refine run_take L S hh ho hn hn2 (arg_ev S he) fun z U1 H1 hz g1 ho1 L1 => ?_
  refine hx σ U1 H1 L1 g1.uh _ fun v U2 H2 g2 r2 => ?_
  cases Td.toInt r2
  refine ⟨z, c, rfl, rfl, _, rfl, ?_⟩
  cases hd : decide ((z : Int) < c) with
  | true => exact iteT (h1 U2 H2 (g1.trans g2.any) (ho1.step g2 (by simp)) (L1.mono g2.uu))
  | false => exact iteF (h2 U2 H2 (g1.trans g2.any) (ho1.step g2 (by simp)) (L1.mono g2.uu))
theorem rv_ixA {q0 q1 : Addr} {s : Nat} (hs : s < 2) : RV C (rIxL K) (.adrs [q0, q1]) (iD s) (.adr (if s = 0 then q0 else q1)) := fun U H x y S ⟨po, e, hp⟩ ry Q q => by
  subst e
  cases Td.toInt ry
  refine ⟨po, _, (s : Int), .ref (if s = 0 then q0 else q1), rfl, rfl, SqL.of (S _ _ hp), ?_, q _ U H (.refl S) rfl⟩
  have h : s = 0 ∨ s = 1 := by omega
  rcases h with rfl | rfl <;> rfl
end
theorem pair_td {U : Hp} {v : V} {s x : Nat} (h : Td U v (pairD (s, x))) : ∃ a, v = .ref a ∧ U a = some (.tup [.int s, .int x]) := by
  obtain ⟨a, vs, rfl, ha, t⟩ := Td.toTup h
  refine ⟨a, rfl, ?_⟩
  have e : vs = [.int s, .int x] := t.ints (ns := [(s : Int), (x : Int)])
  rw [← e]
  exact ha
theorem pair_notin (ts : List (Nat × Nat)) (t : Nat × Nat) : (!(ts.map pairD).any fun z => PyData.eqv z (pairD t)) = !decide (t ∈ ts) := by
  have h := PySem.W.any_datum (ts.map fun p => ((p.1 : Int), (p.2 : Int))) ((t.1 : Int), (t.2 : Int))
  rw [List.map_map] at h
  refine congrArg (!·) (h.trans (decide_eq_decide.mpr ?_))
  rw [List.mem_map]
  constructor
  · rintro ⟨a, ha, e⟩
    have e1 := congrArg Prod.fst e
    have e2 := congrArg Prod.snd e
    have e1 : (a.1 : Int) = t.1 := e1
    have e2 : (a.2 : Int) = t.2 := e2
    have : a = t := Prod.ext (by omega) (by omega)
    exact this ▸ ha
  · exact fun h => ⟨t, h, rfl⟩
theorem shaped_pairs (ts : List (Nat × Nat)) : SeqAt.shaped (.list (ts.map pairD)) = true := by
  have h1 : ∀ l : List (Nat × Nat), PyData.canLayAll0 (l.map pairD) = true := fun l => by
    induction l with
    | nil => rfl
    | cons x l ih => simp [PyData.canLayAll0, PyData.canLay0, pairD, ih]
  have h2 : ∀ l : List (Nat × Nat), PyData.depthAll (l.map pairD) ≤ 1 := fun l => by
    induction l with
    | nil => exact Nat.zero_le _
    | cons x l ih =>
      simp only [List.map_cons, PyData.depthAll, pairD, PyData.depth] at ih ⊢
      omega
  have h3 : PyData.depth (.list (ts.map pairD)) ≤ 64 := by
    have := h2 ts
    simp only [PyData.depth]
    omega
  unfold SeqAt.shaped
  rw [decide_eq_true h3]
  simp [PyData.canLay0, h1]
section
variable {P : Program} {w : World} {K : PySem.W.Frag} {mg : Str → Option Value} {base : Heap} {C : Addr}
abbrev s__law_web : Stmt := topS 51
abbrev N__law_web : List Str := ["_law_hand_here", "_law_things", "_law_clubs", "_law_most", "_law_n", "_law_m", "_law_first", "_law_ties", "_law_ready", "_law_left", "_law_k", "_law_side", "_law_number", "_law_others", "_law_mate", "_law_here", "_law_thick", "_law_thing", "_law_club"]
theorem sc__law_web : FnScope N__law_web ["_law_hand_here", "_law_things", "_law_clubs", "_law_most"] (defScope s__law_web) := ⟨rfl, rfl, rfl, by decide +kernel, rfl, by decide +kernel, by decide +kernel⟩
theorem ok__law_web {f : Addr} {fd : FuncData} (F : Fun K "_law_web" "_law_web" s__law_web f fd) (m_len : mg "len" = none) (m_range : mg "range" = none) (m_sorted : mg "sorted" = none) (F__law_size : Has P w K mg base "_law_size" 3 ["_law_hand_here", "_law_most"] [] spSize) (F__law_take : Has P w K mg base "_law_take" 2 ["_law_hand_here", "_law_many"] [] spTake) :
    FnOk P w K mg base CX0 4 f fd ["_law_hand_here", "_law_things", "_law_clubs", "_law_most"] spDrawn := by
  refine F.ok sc__law_web (fun vs H Q E h => len_spDrawn h) fun cdv A outer s H vs Q E hr h => ?_
  have nd := sc__law_web.nd
  refine ⟨_, (pss_cons (ps_set (i := 4) nd rfl (.inl rfl) (pe_fn F__law_size (hr.mono (by decide)) (by rfl) (pa_cons (pv 0) (pa_cons (pv 1) pa_nil))))
  (pss_cons (ps_set (i := 5) nd rfl (.inl rfl) (pe_fn F__law_size (hr.mono (by decide)) (by rfl) (pa_cons (pv 0) (pa_cons (pv 2) pa_nil))))
  (pss_cons (ps_set (i := 6) nd rfl (.inr rfl) (pe_fn F__law_take (hr.mono (by decide)) (by rfl) (pa_cons (pv 0) (pa_cons (pv 5) pa_nil))))
  (pss_cons (ps_set (i := 7) nd rfl (.inl rfl) (pe_lst (pa_cons (pe_tup (pa_cons pe_int (pa_cons (pv 6) pa_nil))) pa_nil)))
  (pss_cons (ps_set (i := 8) nd rfl (.inl rfl) (pe_lst (pa_cons (pe_lst (pa_cons pe_int pa_nil)) (pa_cons (pe_lst (pa_cons (pv 6) pa_nil)) pa_nil))))
  (pss_cons (ps_set (i := 9) nd rfl (.inl rfl) (pe_op op_cat (pe_lc (own := [("_law_thing", 17)]) (g := gName 17) rfl nd (pi_range2 (by rfl) m_range (pa_cons pe_int (pa_cons (pv 4) pa_nil))) (blkOk_by (own := [("_law_thing", 17)]) (N := N__law_web) (sc := defScope s__law_web) (by decide +kernel)) (fun _ _ _ _ _ => (pg_name (i := 17) nd rfl (.inl rfl))) (fun _ _ _ _ _ => pts_nil) (fun _ _ _ _ _ => (pe_tup (pa_cons pe_int (pa_cons (pv 17) pa_nil))))) (pe_lc (own := [("_law_club", 18)]) (g := gName 18) rfl nd (pi_range1 (by rfl) m_range (pa_cons (pv 5) pa_nil)) (blkOk_by (own := [("_law_club", 18)]) (N := N__law_web) (sc := defScope s__law_web) (by decide +kernel)) (fun _ _ _ _ _ => (pg_name (i := 18) nd rfl (.inl rfl))) (fun _ _ _ _ _ => pts_one (pt_cmpR op_ne (pv 18) (pv 6) (nomark _))) (fun _ _ _ _ _ => (pe_tup (pa_cons pe_int (pa_cons (pv 18) pa_nil)))))))
  (pss_cons (ps_for PassesOwn.never rfl (pi_range1 (by rfl) m_range (pa_cons (pe_op op_sub (pe_op op_add (pv 4) (pv 5)) pe_int) pa_nil)) (pg_name (i := 10) nd rfl (.inl rfl)) (pss_cons (ps_asg (pe_bm PySem.F.plainAttrs_list PySem.F.slot_list_pop PySem.F.type_list_pop mt_popAt (pv 9) (pa_cons (pe_fn F__law_take (hr.mono (by decide)) (by rfl) (pa_cons (pv 0) (pa_cons (pe_callB (len_K (K := K)) (by rfl) m_len (by decide +kernel) (pa_cons (pv 9) pa_nil)) pa_nil))) pa_nil)) (pg_tup rfl (pgs_cons (pg_name (i := 11) nd rfl (.inl rfl)) (pgs_cons (pg_name (i := 12) nd rfl (.inl rfl)) pgs_nil))))
  (pss_cons (ps_set (i := 13) nd rfl (.inl rfl) (pe_ix (ix_listK (K := K)) (pv 8) (pe_op op_sub pe_int (pv 11)) (fun _ _ => rfl)))
  (pss_cons (ps_set (i := 14) nd rfl (.inl rfl) (pe_ix (ix_listK (K := K)) (pv 13) (pe_fn F__law_take (hr.mono (by decide)) (by rfl) (pa_cons (pv 0) (pa_cons (pe_callB (len_K (K := K)) (by rfl) m_len (by decide +kernel) (pa_cons (pv 13) pa_nil)) pa_nil))) (fun _ _ => rfl)))
  (pss_cons (ps_expr (pe_bm PySem.F.plainAttrs_list PySem.F.slot_list_append PySem.F.type_list_append mt_append (pv 7) (pa_cons (pe_ifExp (pt_cmpR op_eq (pv 11) pe_int (nomark _)) (pe_tup (pa_cons (pv 12) (pa_cons (pv 14) pa_nil))) (pe_tup (pa_cons (pv 14) (pa_cons (pv 12) pa_nil)))) pa_nil)))
  (pss_cons (ps_set (i := 15) nd rfl (.inl rfl) (pe_ix (ix_listK (K := K)) (pv 8) (pv 11) (fun _ _ => rfl)))
  (pss_one (ps_expr (pe_bm PySem.F.plainAttrs_list PySem.F.slot_list_append PySem.F.type_list_append mt_append (pv 15) (pa_cons (pv 12) pa_nil))))))))))
  (pss_cons (ps_set (i := 16) nd rfl (.inl rfl) (pe_fn F__law_take (hr.mono (by decide)) (by rfl) (pa_cons (pv 0) (pa_cons pe_int pa_nil))))
  (pss_cons (ps_for PassesOwn.never rfl (pi_range1 (by rfl) m_range (pa_cons (pv 4) pa_nil)) (pg_name (i := 17) nd rfl (.inl rfl)) (pss_one (ps_for PassesOwn.never rfl (pi_range1 (by rfl) m_range (pa_cons (pv 5) pa_nil)) (pg_name (i := 18) nd rfl (.inl rfl)) (pss_one (ps_if (PW.pt (pw_and (pt_cmpR (notInD_K (K := K) (hu65 hr)) (pe_tup (pa_cons (pv 17) (pa_cons (pv 18) pa_nil))) (pv 7) rfl) (pw_and1 (pt_cmpR op_lt (pe_callB (len_K (K := K)) (by rfl) m_len (by decide +kernel) (pa_cons (pv 7) pa_nil)) (pv 3) (nomark _))))) (pss_one (ps_if (pt_cmpR op_lt (pe_fn F__law_take (hr.mono (by decide)) (by rfl) (pa_cons (pv 0) (pa_cons pe_int pa_nil))) (pv 16) (nomark _)) (pss_one (ps_expr (pe_bm PySem.F.plainAttrs_list PySem.F.slot_list_append PySem.F.type_list_append mt_append (pv 7) (pa_cons (pe_tup (pa_cons (pv 17) (pa_cons (pv 18) pa_nil))) pa_nil)))) pss_nil)) pss_nil)))))
  (pss_one (ps_ret (pe_tup (pa_cons (pv 4) (pa_cons (pv 5) (pa_cons (pe_callB (call_sortX (K := K) (hu65 hr)) (by rfl) m_sorted (by decide +kernel) (pa_cons (pv 7) pa_nil)) pa_nil))))))))))))))), ?_⟩
  obtain ⟨p, U, rfl, S, ho, q⟩ := h
  have L : Lo 0 U (L2.start N__law_web [.ref p, .int 4, .int 4, .int 9]) ([some (.adr p), some (iD 4), some (iD 4), some (iD 9)] ++ List.replicate (N__law_web.length - 4) none) :=
    loc_start (ds := [.adr p, iD 4, iD 4, iD 9]) (.cons rfl (.cons (.int _) (.cons (.int _) (.cons (.int _) .nil)))) (by show 4 ≤ 19; decide)
  generalize L2.start N__law_web [.ref p, .int 4, .int 4, .int 9] = σ at L
  have L : Lo 0 U σ [some (.adr p), some (iD 4), some (iD 4), some (iD 9), none, none, none, none, none, none, none, none, none, none, none, none, none, none, none] := L
  refine q_size (n := 4) L S (ev_var rfl) ho (by omega) (by omega) (ev_var rfl) fun n σ1 U1 H1 n1 n4 g1 ho1 L1 => ?_
  refine q_size (n := 4) L1 g1.uh (ev_var rfl) ho1 (by omega) (by omega) (ev_var rfl) fun m σ2 U2 H2 m1 m4 g2 ho2 L2 => ?_
  refine q_take (n := m) L2 g2.uh (ev_var rfl) ho2 (by omega) (by omega) (arg_ev g2.uh (ev_var rfl)) fun f σ3 U3 H3 hf g3 ho3 L3 => ?_
  have g03 := (g1.trans g2).trans g3
  -- ties
  refine q_asgN L3 g3.uh (evn_lst (ds := [pairD (0, f)]) (eva_cons (ev_tup (ds := [nI 0, nI f]) (eva_cons ev_int (eva_cons (ev_var rfl) eva_nil)) (by simp)) eva_nil) (by simp)) fun pt σ4 U4 H4 g4 hpt mt L4 => ?_
  -- ready
  refine q_two L4 g4.uh (evn_lst (ds := [nI 0]) (eva_cons ev_int eva_nil) (by simp)) (evn_lst (ds := [nI f]) (eva_cons (ev_var rfl) eva_nil) (by simp)) fun q0 q1 σ7 U7 H7 g7 hq0 hq1 ne01 mq0 mq1 L7 => ?_
  have ne_t0 : pt ≠ q0 := fun e => mt.here (by rw [e]; exact hq0)
  have ne_t1 : pt ≠ q1 := fun e => mt.here (by rw [e]; exact hq1)
  have ne_pt : p ≠ pt := fun e => ho3.here (by rw [e]; exact hpt)
  have ne_p0 : p ≠ q0 := fun e => (ho3.step g4 (by simp)).here (by rw [e]; exact hq0)
  have ne_p1 : p ≠ q1 := fun e => (ho3.step g4 (by simp)).here (by rw [e]; exact hq1)
  -- left
  let lf0 : List (Nat × Nat) := (List.range (n - 1)).map (fun i => (0, i + 1)) ++ ((List.range m).filter fun c => !decide (c = f)).map fun c => (1, c)
  refine q_asgN (ds := lf0.map pairD) L7 g7.uh ((evn_cat (evn_lc (js := [17]) (List.range (n - 1)) (fun (i : Nat) => iD (1 + (i : Nat))) (fun i => pairD (0, i + 1)) ?_ (by rw [List.length_range]; omega) (by simp) (fun i hi => ⟨_, evg_name, ?_⟩)).ev
    (evn_lcIf (js := [18]) (List.range m) (fun (c : Nat) => iD c) (fun c => !decide (c = f)) (fun c => pairD (1, c)) (evi_rngN (eva_cons (ev_var rfl) eva_nil) (by omega)) (by rw [List.length_range]; omega) (by simp) (fun c hc => ⟨_, evg_name, evt_test (ev_op (ev_var rfl) (ev_var rfl) (rv_neI (congrArg (!·) (decide_eq_decide.mpr (by omega))))), fun _ => ev_tup (ds := [nI 1, nI c]) (eva_cons ev_int (eva_cons (ev_var rfl) eva_nil)) (by simp)⟩)).ev ?_).to ?_) fun pl σ8 U8 H8 g8 hpl ml L8 => ?_
  · have h := evi_rng2 (C := 0) (ρ := [some (.adr p), some (iD 4), some (iD 4), some (iD 9), some (iD n), some (iD m), some (iD f), some (.adr pt), some (.adrs [q0, q1]), none, none, none, none, none, none, none, none, none, none]) (i := 1) (j := n) (t := tCons (tC (.int 1)) (tCons (tVar 4) tNil)) (eva_cons ev_int (eva_cons (ev_var rfl) eva_nil)) (by omega) (by omega) (by omega) (by omega)
    have e : ((n : Int) - 1).toNat = n - 1 := by omega
    rw [e] at h
    exact h
  · exact ev_tup (ds := [nI 0, nI (i + 1)]) (eva_cons ev_int (eva_cons ((ev_var rfl).to (congrArg iD (by omega))) eva_nil)) (by simp)
  · rw [List.length_map, List.length_map, List.length_range]
    have := List.length_filter_le (fun c => !decide (c = f)) (List.range m)
    rw [List.length_range] at this
    omega
  · show _ = ((List.range (n - 1)).map (fun i => (0, i + 1)) ++ ((List.range m).filter fun c => !decide (c = f)).map fun c => (1, c)).map pairD
    rw [List.map_append, List.map_map, List.map_map]
    rfl
  have ne_lt : pl ≠ pt := fun e => (mt.step g7 (by simp)).here (by rw [← e]; exact hpl)
  have ne_l0 : pl ≠ q0 := fun e => mq0.here (by rw [← e]; exact hpl)
  have ne_l1 : pl ≠ q1 := fun e => mq1.here (by rw [← e]; exact hpl)
  have ne_lp : pl ≠ p := fun e => ((ho3.step g4 (by simp)).step g7 (by simp)).here (by rw [← e]; exact hpl)
  let qa : Nat → Addr := fun s => if s = 0 then q0 else q1
  have qa_t : ∀ s, pt ≠ qa s := fun s => by show pt ≠ if s = 0 then q0 else q1; split <;> assumption
  have qa_p : ∀ s, p ≠ qa s := fun s => by show p ≠ if s = 0 then q0 else q1; split <;> assumption
  have qa_l : ∀ s, pl ≠ qa s := fun s => by show pl ≠ if s = 0 then q0 else q1; split <;> assumption
  have qa_ne : ∀ s i, s < 2 → i < 2 → s ≠ i → qa i ≠ qa s := fun s i hs hi h => by
    have h2 : (s = 0 ∧ i = 1) ∨ (s = 1 ∧ i = 0) := by omega
    rcases h2 with ⟨rfl, rfl⟩ | ⟨rfl, rfl⟩
    · exact Ne.symm ne01
    · exact ne01
  have qa_in : ∀ s, qa s ∈ [p, pt, q0, q1, pl] := fun s => by
    show (if s = 0 then q0 else q1) ∈ _
    split <;> simp
  have g38 : Gr [] U3 H3 U8 H8 := (g4.trans g7).trans g8
  have fr3 : ∀ b ∈ [p, pt, q0, q1, pl], b ≠ p → H b = none := fun b hb hn => by
    simp only [List.mem_cons, List.not_mem_nil, or_false] at hb
    have back : ∀ {b : Addr} {M : List Addr} {U' H' : Hp}, Gr M U H U' H' → H' b = none → H b = none := fun {b M U' H'} g e => by
      cases e2 : H b with
      | none => rfl
      | some o => exact absurd e (g.st b (by rw [e2]; intro z; cases z))
    rcases hb with rfl | rfl | rfl | rfl | rfl
    · exact absurd rfl hn
    · exact back g03 hpt
    · exact back (g03.trans g4.any) hq0
    · exact back (g03.trans g4.any) hq1
    · exact back ((g03.trans g4.any).trans g7.any) hpl
  let sl : Option DV → Option DV → Ro := fun a b => [some (.adr p), some (iD 4), some (iD 4), some (iD 9), some (iD n), some (iD m), some (iD f), some (.adr pt), a, b, none, none, none, none, none, none, none, none, none]
  refine q_for (List.range (n + m - 2)) (fun (j : Nat) => iD j) (fun i => [some (.adr p), some (iD 4), some (iD 4), some (iD 9), some (iD n), some (iD m), some (iD f), some (.adr pt), some (.adrs [q0, q1]), some (.adr pl), none, none, none, none, none, none, none, none, none])
    (fun i U' H' => Gr [p, pt, q0, q1, pl] U H U' H' ∧ HandOk U' H' p ∧ ∃ lf rd ts, Tree n m i lf rd ts ∧ ML U' H' pt (ts.map pairD) ∧ ML U' H' pl (lf.map pairD) ∧ ∀ s, s < 2 → ML U' H' (qa s) ((rd s).map nI)) L8 g8.uh
    (evi_rngN (eva_cons ((ev_op (ev_op (ev_var rfl) (ev_var rfl) (rv_I0 rfl)) ev_int (rv_I0 rfl)).to (b := iD (n + m - 2 : Nat)) (congrArg iD (by omega))) eva_nil) (by omega)) (.eq (.eq (.eq (.eq (.eq (.eq (.eq (.eq (.eq (.eq (.no (.no (.no (.no (.no (.no (.no (.no (.no .nil))))))))))))))))))) ?_ ?_ ?_
  · intro U9 H9 g9
    refine ⟨(g03.wide (by simp)).trans (g38.trans g9).any, ho3.step (g38.trans g9) (by simp), lf0, _, _, Tree.start n1 m1 hf, mt.step ((g7.trans g8).trans g9) (by simp), ml.step g9 (by simp), fun s hs => ?_⟩
    have h : s = 0 ∨ s = 1 := by omega
    rcases h with rfl | rfl
    · exact mq0.step (g8.trans g9) (by simp)
    · exact mq1.step (g8.trans g9) (by simp)
  · intro i k Ub U9 H9 U10 H10 ea ⟨g9, h9, lf, rd, ts, T, mt9, ml9, mq9⟩ _ sb g10
    obtain ⟨hi, rfl⟩ := rng_at ea
    refine ⟨_, _, evg_name, fun σ10 L10 => ?_⟩
    have lfne : lf ≠ [] := fun e => by
      have := T.len
      rw [e, List.length_nil] at this
      omega
    have lf8 : lf.length ≤ 8 := by have := T.len; omega
    refine q_pop2 9 L10 g10.uh (ev_var rfl) (ml9.step g10 (by simp)) rfl (ev_var rfl) (h9.step g10 (by simp)) ne_lp lfne (by omega) (ev_call (eva_cons (ev_var rfl) eva_nil) rc_lenLM) fun z s y σ11 U11 H11 hz g11 h11 ml11 L11 => ?_
    obtain ⟨hs2, hyd, hyn⟩ := T.left _ (List.mem_of_getElem? hz)
    have hs2 : s < 2 := hs2
    have mt11 := (mt9.step g10 (by simp)).step g11 (by simp [Ne.symm ne_pt, Ne.symm ne_lt])
    have mq11 : ∀ s, s < 2 → ML U11 H11 (qa s) ((rd s).map nI) := fun s hs => ((mq9 s hs).step g10 (by simp)).step g11 (by simp [Ne.symm (qa_p s), Ne.symm (qa_l s)])
    refine q_asg L11 g11.uh ((ev_op (ev_var rfl) ((ev_op ev_int (ev_var rfl) (rv_I0 rfl)).to (b := iD (1 - s : Nat)) (congrArg iD (by omega))) (rv_ixA (by omega))).to (b := .adr (qa (1 - s))) rfl) fun σ12 U12 H12 g12 L12 => ?_
    refine q_pick 13 L12 g12.uh (ev_var rfl) ((mq11 (1 - s) (by omega)).step g12 (by simp)) rfl (ev_var rfl) (h11.step g12 (by simp)) (Ne.symm (qa_p _)) (T.ne _ (by omega)) (by have := T.small (1 - s); omega) (ev_call (eva_cons (ev_var rfl) eva_nil) rc_lenLM) fun x σ13 U13 H13 hx g13 h13 L13 => ?_
    refine q_app (c := pairD (tieOf s y x)) L13 g13.uh (ev_var rfl) (ev_if (p := decide (s = 0)) (evt_test (ev_op (ev_var rfl) ev_int (rv_eqI (decide_eq_decide.mpr (by omega))))) (fun hb => ?_) (fun hb => ?_)) ((mt11.step g12 (by simp)).step g13 (by simpa using Ne.symm ne_pt)) (by rw [List.length_map, T.tlen]; omega) fun U14 H14 g14 mt14 L14 => ?_
    · have e : tieOf s y x = (y, x) := if_pos (of_decide_eq_true hb)
      rw [e]
      exact ev_tup (ds := [nI y, nI x]) (eva_cons (ev_var rfl) (eva_cons (ev_var rfl) eva_nil)) (by simp)
    · have e : tieOf s y x = (x, y) := if_neg (of_decide_eq_false hb)
      rw [e]
      exact ev_tup (ds := [nI x, nI y]) (eva_cons (ev_var rfl) (eva_cons (ev_var rfl) eva_nil)) (by simp)
    refine q_asg L14 g14.uh ((ev_op (ev_var rfl) (ev_var rfl) (rv_ixA hs2)).to (b := .adr (qa s)) rfl) fun σ15 U15 H15 g15 L15 => ?_
    have mq15 : ∀ i, i < 2 → ML U15 H15 (qa i) ((rd i).map nI) := fun i hi => ((((mq11 i hi).step g12 (by simp)).step g13 (by simpa using Ne.symm (qa_p i))).step g14 (by simpa using Ne.symm (qa_t i))).step g15 (by simp)
    refine s_app L15 g15.uh (ev_var rfl) (ev_var rfl) (mq15 s hs2) (by rw [List.length_map]; have := T.small s; omega) fun U16 H16 g16 mq16 L16 => ?_
    have gall : Gr [p, pt, q0, q1, pl] U10 H10 U16 H16 := ((((g11.wide (by simp)).trans g12.any).trans (g13.wide (by simp))).trans (g14.wide (by simp))).trans (g15.any.trans (g16.wide (by simpa using qa_in s)))
    refine nx_of (Nxt.of (M := [p, pt, q0, q1, pl]) (U0 := U10) (H0 := H10) sb gall (L16.sub (.eq (.eq (.eq (.eq (.eq (.eq (.eq (.eq (.eq (.eq (.no (.no (.no (.no (.no (.no (.no (.no (.no .nil)))))))))))))))))))) ⟨(g9.trans g10.any).trans gall, ?_, lf.eraseIdx z, putR rd s y, ts ++ [tieOf s y x], T.step hz hx, ?_, ?_, fun i hi => ?_⟩)
    · exact ((h13.step g14 (by simpa using ne_pt)).step g15 (by simp)).step g16 (by simpa using qa_p s)
    · rw [List.map_append]
      exact (mt14.step g15 (by simp)).step g16 (by simpa using qa_t s)
    · exact ((((ml11.step g12 (by simp)).step g13 (by simpa using ne_lp)).step g14 (by simpa using ne_lt)).step g15 (by simp)).step g16 (by simpa using qa_l s)
    · by_cases e : i = s
      · subst e
        have e2 : putR rd i y i = rd i ++ [y] := if_pos rfl
        rw [e2, List.map_append]
        exact mq16
      · have e2 : putR rd s y i = rd i := if_neg e
        rw [e2]
        exact (mq15 i hi).step g16 (by simpa using qa_ne s i hs2 hi (Ne.symm e))
  · intro U9 H9 σ9 L9 s1 s2 ⟨g9, h9, lf, rd, ts, T, mt9, ml9, mq9⟩
    have lf0 : lf = [] := by
      have := T.len
      rw [List.length_range] at this
      exact List.length_eq_zero_iff.mp (by omega)
    subst lf0
    have L9 : Lo 0 U9 σ9 [some (.adr p), some (iD 4), some (iD 4), some (iD 9), some (iD n), some (iD m), some (iD f), some (.adr pt), some (.adrs [q0, q1]), some (.adr pl), none, none, none, none, none, none, none, none, none] := L9
    let Good : List (Nat × Nat) → Prop := fun ts => ts.length ≤ 9 ∧ ts.Nodup ∧ (∀ t ∈ ts, t.1 < n ∧ t.2 < m) ∧ ConnOn ts (List.range n) (List.range m)
    have good0 : Good ts := by
      refine ⟨?_, T.tnd, fun t ht => ?_, T.full⟩
      · rw [T.tlen, List.length_range]; omega
      · obtain ⟨a, b⟩ := T.ends t ht
        exact ⟨T.rng 0 (by decide) _ a, T.rng 1 (by decide) _ b⟩
    refine q_take (n := 4) L9 s2 (ev_var rfl) h9 (by omega) (by omega) (arg_ev s2 ev_int) fun c σ10 U10 H10 hc g10 h10 L10 => ?_
    refine q_for (List.range n) (fun (j : Nat) => iD j) (fun i => [some (.adr p), some (iD 4), some (iD 4), some (iD 9), some (iD n), some (iD m), some (iD f), some (.adr pt), none, none, none, none, none, none, none, none, some (iD c), none, none])
      (fun i U' H' => Gr [p, pt, q0, q1, pl] U H U' H' ∧ HandOk U' H' p ∧ ∃ ts, Good ts ∧ ML U' H' pt (ts.map pairD)) L10 g10.uh (evi_rngN (eva_cons (ev_var rfl) eva_nil) (by omega)) (.eq (.eq (.eq (.eq (.eq (.eq (.eq (.eq (.no (.no (.no (.no (.no (.no (.no (.no (.eq (.no (.no .nil))))))))))))))))))) ?_ ?_ ?_
    · intro U11 H11 g11
      exact ⟨(g9.trans (g10.wide (by simp))).trans g11.any, h10.step g11 (by simp), ts, good0, (mt9.step g10 (by simpa using Ne.symm ne_pt)).step g11 (by simp)⟩
    · intro i a Ub U11 H11 U12 H12 ea ⟨g11, h11, us, gd, mu⟩ _ sb g12
      obtain ⟨hi, rfl⟩ := rng_at ea
      refine ⟨_, _, evg_name, fun σ12 L12 => ?_⟩
      refine s_for (List.range m) (fun (j : Nat) => iD j) (fun i => [some (.adr p), some (iD 4), some (iD 4), some (iD 9), some (iD n), some (iD m), some (iD f), some (.adr pt), none, none, none, none, none, none, none, none, some (iD c), some (iD a), none])
        (fun i U' H' => Gr [p, pt, q0, q1, pl] U12 H12 U' H' ∧ HandOk U' H' p ∧ ∃ ts, Good ts ∧ ML U' H' pt (ts.map pairD)) L12 g12.uh (evi_rngN (eva_cons (ev_var rfl) eva_nil) (by omega)) (.eq (.eq (.eq (.eq (.eq (.eq (.eq (.eq (.eq (.eq (.eq (.eq (.eq (.eq (.eq (.eq (.eq (.eq (.no .nil))))))))))))))))))) ?_ ?_ ?_
      · intro U13 H13 g13
        exact ⟨g13.any, h11.step (g12.trans g13) (by simp), us, gd, mu.step (g12.trans g13) (by simp)⟩
      · intro j b Ub2 U13 H13 U14 H14 eb ⟨g13, h13, ws, gw, mw⟩ _ sb2 g14
        obtain ⟨hj, rfl⟩ := rng_at eb
        refine ⟨_, _, evg_name, fun σ14 L14 => ?_⟩
        have mw14 := mw.step g14 (by simp)
        have h14 := h13.step g14 (by simp)
        refine s_ifP 7 L14 g14.uh mw14 rfl (b := !decide ((a, b) ∈ ws) && decide (ws.length < 9)) (evt_and (evt_test (ev_op (ev_tup (ds := [nI a, nI b]) (eva_cons (ev_var rfl) (eva_cons (ev_var rfl) eva_nil)) (by simp)) (ev_var rfl) (rv_notInD (d := pairD (a, b)) ?_ (shaped_pairs ws) (pair_notin ws (a, b))))) fun _ => evt_test (ev_op (ev_call (eva_cons (ev_var rfl) eva_nil) rc_lenLM) (ev_var rfl) (rv_B0 (congrArg V.bl (decide_eq_decide.mpr (by omega)))))) (fun hb H15 g15 => ?_) (fun hb H15 g15 => ?_)
        · rfl
        · rw [Bool.and_eq_true] at hb
          have hb1 : (a, b) ∉ ws := by simpa using hb.1
          have hb2 : ws.length < 9 := of_decide_eq_true hb.2
          refine s_ifTake (n := 4) L14 g15.uh (ev_var rfl) (h14.step g15 (by simp)) (by omega) (by omega) ev_int (ev_var rfl) (fun U16 H16 g16 h16 L16 => ?_) (fun U16 H16 g16 h16 L16 => ?_)
          · refine s_app (c := pairD (a, b)) L16 g16.uh (ev_var rfl) (ev_tup (ds := [nI a, nI b]) (eva_cons (ev_var rfl) (eva_cons (ev_var rfl) eva_nil)) (by simp)) ((mw14.step g15 (by simp)).step g16 (by simpa using Ne.symm ne_pt)) (by rw [List.length_map]; omega) fun U17 H17 g17 mw17 L17 => ?_
            have gg : Gr [p, pt, q0, q1, pl] U14 H14 U17 H17 := g15.any.trans ((g16.wide (by simp)).trans (g17.wide (by simp)))
            refine nx_of (Nxt.of (M := [p, pt, q0, q1, pl]) (U0 := U14) (H0 := H14) sb2 gg (L17.sub (.eq (.eq (.eq (.eq (.eq (.eq (.eq (.eq (.eq (.eq (.eq (.eq (.eq (.eq (.eq (.eq (.eq (.eq (.no .nil)))))))))))))))))))) ⟨(g13.trans g14.any).trans gg, h16.step g17 (by simpa using ne_pt), ws ++ [(a, b)], ?_, ?_⟩)
            · refine ⟨by rw [List.length_append]; simp; omega, ?_, fun t ht => ?_, gw.2.2.2.more fun t h => List.mem_append_left _ h⟩
              · rw [List.nodup_append]
                exact ⟨gw.2.1, by simp, fun x hx y hy => by rw [List.mem_singleton.mp hy]; exact fun e => hb1 (e ▸ hx)⟩
              · rcases List.mem_append.mp ht with h | h
                · exact gw.2.2.1 t h
                · rw [List.mem_singleton.mp h]; exact ⟨hi, hj⟩
            · rw [List.map_append]
              exact mw17
          · have gg : Gr [p, pt, q0, q1, pl] U14 H14 U16 H16 := g15.any.trans (g16.wide (by simp))
            exact nx_of (Nxt.of (M := [p, pt, q0, q1, pl]) (U0 := U14) (H0 := H14) sb2 gg (L16.sub (.eq (.eq (.eq (.eq (.eq (.eq (.eq (.eq (.eq (.eq (.eq (.eq (.eq (.eq (.eq (.eq (.eq (.eq (.no .nil)))))))))))))))))))) ⟨(g13.trans g14.any).trans gg, h16, ws, gw, (mw14.step g15 (by simp)).step g16 (by simpa using Ne.symm ne_pt)⟩)
        · exact nx_of (Nxt.of (M := [p, pt, q0, q1, pl]) (U0 := U14) (H0 := H14) sb2 g15.any (L14.sub (.eq (.eq (.eq (.eq (.eq (.eq (.eq (.eq (.eq (.eq (.eq (.eq (.eq (.eq (.eq (.eq (.eq (.eq (.no .nil)))))))))))))))))))) ⟨(g13.trans g14.any).trans g15.any, h14.step g15 (by simp), ws, gw, mw14.step g15 (by simp)⟩)
      · intro U13 H13 σ13 L13 s3 s4 ⟨g13, h13, ws, gw, mw⟩
        exact nx_of (Nxt.of (M := [p, pt, q0, q1, pl]) (U0 := U12) (H0 := H12) sb g13 (L13.sub (.eq (.eq (.eq (.eq (.eq (.eq (.eq (.eq (.no (.no (.no (.no (.no (.no (.no (.no (.eq (.no (.no .nil)))))))))))))))))))) ⟨(g11.trans g12.any).trans g13, h13, ws, gw, mw⟩)
    · intro U11 H11 σ11 L11 s3 s4 ⟨g11, h11, us, gd, mu⟩
      obtain ⟨U12, g12, e12, L12, z12⟩ := ML.tell 7 S g11 (fr3 pt (by simp) (Ne.symm ne_pt)) mu L11 rfl
      have h12 : HandOk U12 H11 p := h11.keep e12 (z12 p ne_pt)
      refine s_ret L12 g12.uh (ev_tup (ds := [nI n, nI m, .list ((sortP us).map pairD)]) (eva_cons (ev_var rfl) (eva_cons (ev_var rfl) (eva_cons ((evn_sorted (eva_cons (ev_var rfl) eva_nil) (.inl rfl) (so_pairs us)).ev.to (by rw [sortD_pairs])) eva_nil))) (by simp)) fun v U13 H13 g13 r13 => ?_
      have perm := sortP_perm us
      refine q n m (sortP us) v U13 H13 ⟨n1, n4, m1, m4, by rw [perm.length_eq]; exact gd.1, fun t h => (gd.2.2.1 t (perm.mem_iff.mp h)).1, fun t h => (gd.2.2.1 t (perm.mem_iff.mp h)).2, (perm.nodup_iff).mpr gd.2.1, sortP_idem us, gd.2.2.2.more fun t h => perm.mem_iff.mpr h⟩ ?_ (h12.step g13 (by simp)) r13
      refine (⟨g12.uu, g12.uh, fun b o hb hn => g12.hh b o hb fun hm => ?_, g12.fr, g12.st⟩ : Gr [p] U H U12 H11).trans g13.any
      have := fr3 b hm (by simpa using hn)
      rw [this] at hb
      cases hb
end
end Kx
end
section
set_option Elab.async false
set_option linter.all false
set_option maxRecDepth 100000
set_option maxHeartbeats 4000000
namespace Kx
open PySem PySem.Spec L2
open PyProof.Rows (envOfC)
def toI (l : Load) : LoadI := (asI l.1, asI l.2)
theorem loadD_Z (l : Load) : loadD l = loadZ (toI l) := by
  show PyData.tuple [nT l.1, nT l.2] = PyData.tuple [intsD (asI l.1), intsD (asI l.2)]
  rw [nT_asI, nT_asI]
theorem loadsD (ls : List Load) : ls.map loadD = (ls.map toI).map loadZ := by
  rw [List.map_map]
  exact List.map_congr_left fun l _ => loadD_Z l
theorem asI_inj : ∀ {a b : List Nat}, asI a = asI b → a = b
  | [], [], _ => rfl
  | [], _ :: _, h => by cases h
  | _ :: _, [], h => by cases h
  | x :: a, y :: b, h => by
    have h1 : (x : Int) = y := (List.cons.inj h).1
    have h2 : asI a = asI b := (List.cons.inj h).2
    rw [asI_inj h2]
    congr 1
    omega
theorem toI_inj {a b : Load} (h : toI a = toI b) : a = b := Prod.ext (asI_inj (congrArg Prod.fst h)) (asI_inj (congrArg Prod.snd h))
theorem nodup_toI {ls : List Load} (h : ls.Nodup) : (ls.map toI).Nodup := List.Pairwise.map _ (fun _ _ (ne : _ ≠ _) e => ne (toI_inj e)) h
/-- loads told as ints, told back -/
theorem back_toI {ys : List LoadI} {xs : List Load} (nd : ys.Nodup) (h : ∀ k ∈ ys, k ∈ xs.map toI) : ∃ ls : List Load, ys = ls.map toI ∧ ls.Nodup := by
  have key : ∀ ys : List LoadI, (∀ k ∈ ys, k ∈ xs.map toI) → ∃ ls : List Load, ys = ls.map toI := fun ys => by
    induction ys with
    | nil => exact fun _ => ⟨[], rfl⟩
    | cons y ys ih =>
      intro h
      obtain ⟨l, _, e⟩ := List.mem_map.mp (h y List.mem_cons_self)
      obtain ⟨ls, e2⟩ := ih fun k hk => h k (List.mem_cons_of_mem _ hk)
      exact ⟨l :: ls, by rw [List.map_cons, e, e2]⟩
  obtain ⟨ls, rfl⟩ := key ys h
  exact ⟨ls, rfl, List.Pairwise.of_map toI (fun a b (ne : toI a ≠ toI b) e => ne (congrArg toI e)) nd⟩
theorem mem_toI {ls : List Load} {l : Load} : toI l ∈ ls.map toI ↔ l ∈ ls :=
  ⟨fun h => (by obtain ⟨x, hx, e⟩ := List.mem_map.mp h; exact toI_inj e ▸ hx), fun h => List.mem_map.mpr ⟨l, h, rfl⟩⟩
theorem rep_zero (n : Nat) : (List.replicate ((n : Int)).toNat [nI 0]).flatten = (List.replicate n 0).map nI := by
  rw [Int.toNat_natCast]
  induction n with
  | zero => rfl
  | succ n ih =>
    rw [List.replicate_succ, List.flatten_cons, ih, List.replicate_succ]
    rfl
abbrev prAll : Prm (WebA × Nat) := ⟨fun x => [webD x.1, iD x.2], fun x => WebOk x.1.1 x.1.2.1 x.1.2.2 ∧ x.1.2.2.length ≤ 9 ∧ x.2 ≤ 3, fun x d => ∃ ls : List Load, d = .d (.tuple (ls.map loadD)) ∧ LoadsAre x.1.1 x.1.2.1 x.1.2.2 x.2 ls⟩
section
variable {C : Addr} {K : PySem.W.Frag} {ρ : Ro} {t : TA} {E : XK} {n m : Nat} {ts : List (Nat × Nat)} {te ta : TE}
theorem c_all (k : Nat) (h : EvA C t ρ [.web n m ts, iD k]) (h1 : WebOk n m ts) (h2 : ts.length ≤ 9) (h3 : k ≤ 3) : EvP C (tCall (prAll.sp C) [] E t) ρ (fun d => ∃ ls : List Load, d = .d (.tuple (ls.map loadD)) ∧ LoadsAre n m ts k ls) := evp_fn (P := prAll) ((n, m, ts), k) h ⟨h1, h2, h3⟩
/-- ((0,) * n, (0,) * m) -/
theorem ev_zero {ta tb : TE} (hn : Ev C ta ρ (iD n)) (hm : Ev C tb ρ (iD m)) (n1 : 1 ≤ n) (n4 : n ≤ 4) (m1 : 1 ≤ m) (m4 : m ≤ 4) : Ev C (tTup (tCons (tOp (rRepX K) (tTup (tCons (tC (.int 0)) tNil)) ta) (tCons (tOp (rRepX K) (tTup (tCons (tC (.int 0)) tNil)) tb) tNil))) ρ (.d (loadD (zeroL n m))) :=
  ev_tup (ds := [nT (List.replicate n 0), nT (List.replicate m 0)]) (eva_cons ((ev_op (ev_tup (ds := [nI 0]) (eva_cons ev_int eva_nil) (by simp)) hn (rv_repX (by simp) (by omega) (by omega) (by simp))).to (by rw [rep_zero]; rfl))
    (eva_cons ((ev_op (ev_tup (ds := [nI 0]) (eva_cons ev_int eva_nil) (by simp)) hm (rv_repX (by simp) (by omega) (by omega) (by simp))).to (by rw [rep_zero]; rfl)) eva_nil)) (by simp)
end
theorem are_zero (n m : Nat) (ts : List (Nat × Nat)) : LoadsAre n m ts 0 [zeroL n m] := ⟨by simp, fun l => Iff.rfl⟩
section
variable {P : Program} {w : World} {K : PySem.W.Frag} {mg : Str → Option Value} {base : Heap} {C : Addr}
abbrev s_all_loads : Stmt := topS 41
abbrev N_all_loads : List Str := ["web", "many", "size", "loads", "_", "load", "tie"]
theorem sc_all_loads : FnScope N_all_loads ["web", "many"] (defScope s_all_loads) := ⟨rfl, rfl, rfl, by decide +kernel, rfl, by decide +kernel, by decide +kernel⟩
theorem ok_all_loads {f : Addr} {fd : FuncData} (F : Fun K "all_loads" "all_loads" s_all_loads f fd) (T : WebC K C) (m_range : mg "range" = none) (m_set : mg "set" = none) (m_sorted : mg "sorted" = none) (m_tuple : mg "tuple" = none) (F_check_many : Has P w K mg base "check_many" 2 ["many", "most"] [] (prMany.sp C)) (F_one_more : Has P w K mg base "one_more" 1 ["load", "tie"] [] (prOneMore.sp C)) :
    FnOk P w K mg base CX0 3 f fd ["web", "many"] (prAll.sp C) := by
  refine def_ok F sc_all_loads (fun _ => rfl) (by decide) fun cdv A outer s H E hr => ?_
  have nd := sc_all_loads.nd
  refine ⟨_, (pss_cons (ps_set (i := 2) nd rfl (.inl rfl) (pe_fn F_check_many (hr.mono (by decide)) (by rfl) (pa_cons (pv 1) (pa_cons pe_int pa_nil))))
  (pss_cons (ps_set (i := 3) nd rfl (.inl rfl) (pe_lst (pa_cons (pe_tup (pa_cons (pe_op (repT_K (K := K)) (pe_tup (pa_cons pe_int pa_nil)) (fld_K (K := K) rfl (pv 0))) (pa_cons (pe_op (repT_K (K := K)) (pe_tup (pa_cons pe_int pa_nil)) (fld_K (K := K) rfl (pv 0))) pa_nil))) pa_nil)))
  (pss_cons (ps_for PassesOwn.never rfl (pi_range1 (by rfl) m_range (pa_cons (pv 2) pa_nil)) (pg_name (i := 4) nd rfl (.inl rfl)) (pss_one (ps_set (i := 3) nd rfl (.inl rfl) (pe_sortSet (K := K) (hu65 hr) (by rfl) m_sorted (by rfl) m_set (pe_lc2 (own := [("load", 5), ("tie", 6)]) (vs1 := [6]) (g := gName 5) (g1 := gName 6) rfl nd (pi_listK (K := K) rfl (pv 3)) (blkOk_by (own := [("load", 5), ("tie", 6)]) (N := N_all_loads) (sc := defScope s_all_loads) (by decide +kernel)) (by simp) (fun _ _ _ _ _ => (pg_name (i := 5) nd rfl (.inl rfl))) (fun _ _ _ _ _ => pts_nil) (fun _ _ _ _ _ => (pi_tupK (K := K) rfl (fld_K (K := K) rfl (pv 0)))) (fun _ _ _ _ _ => (pg_name (i := 6) nd rfl (.inl rfl))) (fun _ _ _ _ _ => pts_nil) (fun _ _ _ _ _ => (pe_fn F_one_more (hr.mono (by decide)) (by rfl) (pa_cons (pv 5) (pa_cons (pv 6) pa_nil))))) rfl))))
  (pss_one (ps_ret (pe_callTy (tuple_K (K := K)) (by rfl) m_tuple (by decide +kernel) (pa_cons (pv 3) pa_nil))))))), ?_⟩
  intro y U σ Q S L hp q
  obtain ⟨⟨n, m, ts⟩, k⟩ := y
  obtain ⟨h1, h2, h3⟩ : WebOk n m ts ∧ ts.length ≤ 9 ∧ k ≤ 3 := hp
  have L : Lo C U σ [some (.web n m ts), some (iD k), none, none, none, none, none] := L
  refine q_asg L S (c_many k 4 (eva_cons (ev_var rfl) (eva_cons ev_int eva_nil)) (by omega)) fun σ1 U1 H1 g1 L1 => ?_
  refine q_asg L1 g1.uh (evn_lst (ds := [loadD (zeroL n m)]) (eva_cons (ev_zero (ev_things (ev_var rfl) T.cl T.n1) (ev_clubs (ev_var rfl) T.cl T.n2) h1.n1 h1.n4 h1.m1 h1.m4) eva_nil) (by simp)).ev fun σ2 U2 H2 g2 L2 => ?_
  let I : Nat → Ro → Hp → Hp → Prop := fun i ρi U' H' => ∃ ls, LoadsAre n m ts i ls ∧ ρi = [some (.web n m ts), some (iD k), some (iD k), some (.d (.list (ls.map loadD))), none, none, none] ∧ Gr [] U H U' H'
  refine q_forE (List.range k) (fun (j : Nat) => iD j) I [some (.web n m ts), some (iD k), some (iD k), some (.d (.list ([zeroL n m].map loadD))), none, none, none] L2 g2.uh
    ((evi_rngN (eva_cons (ev_var rfl) eva_nil) (by omega)).at L2 g2.uh) (.eq (.eq (.eq (.eq (.no (.no (.no .nil))))))) (fun _ _ g => ⟨_, are_zero n m ts, rfl, (g1.trans g2).trans g⟩) ?_ ?_
  · rintro i a ρi Ub U3 H3 U4 H4 ea ⟨ls, are, rfl, g3⟩ _ sb g4
    obtain ⟨hi, rfl⟩ := rng_at ea
    have fewL : ls.length ≤ 81 := by
      have z := are.few
      have z2 : ts.length ^ a ≤ 9 ^ 2 := Nat.le_trans (Nat.pow_le_pow_left h2 a) (Nat.pow_le_pow_right (by decide) (by omega))
      omega
    refine ⟨_, _, evg_name, fun σ4 L4 => ?_⟩
    have exs : (ls.flatMap fun l => ts.map fun t => loadD (oneMore l t)) = ((ls.flatMap fun l => ts.map (oneMore l)).map toI).map loadZ := by
      rw [← loadsD, List.map_flatMap]
      refine congrArg (fun f => ls.flatMap f) (funext fun l => ?_)
      rw [List.map_map]
      rfl
    refine s_asgP L4 g4.uh (evp_sortSet (xs := (ls.flatMap fun l => ts.map (oneMore l)).map toI) ((evn_lc2 (js := [5]) (js1 := [6]) ls (fun l => .d (loadD l)) ts (fun t => .d (pairD t)) (fun l t => loadD (oneMore l t)) (evi_listM loadD ls (ev_var rfl)) (by have := Nat.mul_le_mul fewL h2; omega) (by simp) (by simp)
      (fun l hl => ⟨_, evg_name, evi_tupM pairD ts (ev_ties (ev_var rfl) T.cl T.n3), fun t ht => ⟨_, evg_name, c_oneMore l t (eva_cons (ev_var rfl) (eva_cons (ev_var rfl) eva_nil)) ?_ ?_⟩⟩)).ev.to (congrArg (fun z => DV.d (.list z)) exs)) (fun ys nd hs => ?_)) fun d σ5 U5 H5 pd g5 L5 => ?_
    · rw [(loadsL_dim n m ts a l ((are.2 l).mp hl)).1]; have := h1.n4; omega
    · rw [(loadsL_dim n m ts a l ((are.2 l).mp hl)).2]; have := h1.m4; omega
    · obtain ⟨zs, rfl, ndz⟩ := back_toI nd hs
      rw [List.length_map]
      have := loads_165 (n := n) (m := m) (k := a + 1) (by omega) h2 ndz fun l hl => (are.step l).mpr (mem_toI.mp (hs _ (mem_toI.mpr hl)))
      omega
    · obtain ⟨ys, rfl, nd, mem⟩ := pd
      obtain ⟨zs, rfl, ndz⟩ := back_toI nd fun k hk => (mem k).mp hk
      refine NxE.of (I := I (a + 1)) sb g5 (L5.sub (ρ' := [some (.web n m ts), some (iD k), some (iD k), some (.d (.list (zs.map loadD))), none, none, none]) ?_) ⟨zs, ⟨ndz, fun l => ?_⟩, rfl, (g3.trans g4).trans g5⟩
      · rw [loadsD]
        exact .eq (.eq (.eq (.eq (.no (.no (.no .nil))))))
      · rw [are.step l, ← mem_toI, mem, mem_toI]
  · rintro ρ1 U3 H3 σ3 L3 s1 s2 ⟨ls, are, rfl, g3⟩
    rw [List.length_range] at are
    exact s_ret L3 s2 (ev_tuple (eva_cons (ev_var rfl) eva_nil) (.inl rfl)) fun v U4 H4 g4 r4 => q v _ U4 H4 (g3.trans g4) r4 ⟨ls, rfl, are⟩
end
end Kx
end
section
set_option Elab.async false
set_option linter.all false
set_option maxRecDepth 100000
set_option maxHeartbeats 4000000
namespace Kx
open PySem PySem.Spec L2
open PyProof.Rows (envOfC)
def LD (ls : List Load) : PyData := .list (ls.map loadD)
abbrev prLLoads : Prm (Nat × Nat × List (Nat × Nat) × Nat) := ⟨fun x => [iD x.1, iD x.2.1, .d (.list (x.2.2.1.map pairD)), iD x.2.2.2], fun x => 1 ≤ x.1 ∧ x.1 ≤ 4 ∧ 1 ≤ x.2.1 ∧ x.2.1 ≤ 4 ∧ (∀ t ∈ x.2.2.1, t.1 < x.1) ∧ (∀ t ∈ x.2.2.1, t.2 < x.2.1) ∧ x.2.2.1.length ≤ 10 ∧ x.2.2.2 ≤ 4,
  fun x d => ∃ lss : List (List Load), d = .d (.list (lss.map LD)) ∧ lss.length = x.2.2.2 + 1 ∧ ∀ i ls, lss[i]? = some ls → LoadsAre x.1 x.2.1 x.2.2.1 i ls⟩
section
variable {C : Addr} {K : PySem.W.Frag} {ρ : Ro} {t : TA} {E : XK} {n m : Nat} {ts : List (Nat × Nat)} {te ta : TE} {σ : L2.St} {U H : Hp} {D : Ends} {tz : TS} {p : Addr} {ds : List PyData} {c : PyData}
theorem c_lloads (k : Nat) (h : EvA C t ρ [iD n, iD m, .d (.list (ts.map pairD)), iD k]) (n1 : 1 ≤ n) (n4 : n ≤ 4) (m1 : 1 ≤ m) (m4 : m ≤ 4) (th : ∀ t ∈ ts, t.1 < n) (cl : ∀ t ∈ ts, t.2 < m) (h2 : ts.length ≤ 10) (h3 : k ≤ 4) :
    EvP C (tCall (prLLoads.sp C) [] E t) ρ (fun d => ∃ lss : List (List Load), d = .d (.list (lss.map LD)) ∧ lss.length = k + 1 ∧ ∀ i ls, lss[i]? = some ls → LoadsAre n m ts i ls) := evp_fn (P := prLLoads) (n, m, ts, k) h ⟨n1, n4, m1, m4, th, cl, h2, h3⟩
theorem run_sortX (S : Same U H) (h : ∀ Q : VK, (∀ v U' H', Gr [] U H U' H' → Td U' v (.list ds) → Q v H') → te σ H Q) (so : SortOk ds) {Q : VK} (k : ∀ v U' H', Gr [] U H U' H' → Td U' v (.list (sortD ds)) → Q v H') : tCB (rSortX K) (tCons te tNil) σ H Q := by
  show te σ H _
  refine h _ fun v U1 H1 g1 tv => ?_
  obtain ⟨x, vs, rfl, hx, t⟩ := Td.toLst tv
  exact ⟨x, vs, ds, rfl, .inl (g1.uh _ _ hx), t.dp g1.uh, so, fun r hr => k _ _ _ (g1.trans (Gr.new g1.uh hr)) (Td.lst upd_same ((sort_td t).mono (same_upd (up_none g1.uh hr))))⟩
theorem s_appV (L : Lo C U σ ρ) (S : Same U H) (ha : Ev C ta ρ (.adr p)) (m : ML U H p ds) (hz : ds.length < 100000) (hv : ∀ U1 H1, Gr [] U H U1 H1 → Lo C U1 σ ρ → ∀ Q : VK, (∀ v U' H', Gr [] U1 H1 U' H' → Td U' v c → Q v H') → te σ H1 Q)
    (k : ∀ U' H', Gr [p] U H U' H' → ML U' H' p (ds ++ [c]) → Lo C U' σ ρ → D.nx σ H') : tDrop (tBM K "list" rAppend ta (tCons te tNil)) D σ H := by
  show ta σ H _
  refine ha σ U H L S _ fun v U1 H1 g1 r1 => ?_
  obtain rfl : v = .ref p := r1
  obtain ⟨n1, vs1, h1, t1⟩ := m.step g1 (by simp)
  refine ⟨.inl ⟨rfl, _, SqL.of h1⟩, ?_⟩
  show te σ H1 _
  refine hv U1 H1 g1 (L.mono g1.uu) _ fun w U2 H2 g2 tw => ?_
  obtain ⟨n2, vs2, h2, t2⟩ := m.step (g1.trans g2) (by simp)
  exact ⟨p, vs2, w, rfl, rfl, h2, szlt (by rw [t2.length]; exact hz), k U2 _ ((g1.trans g2).any.trans (Gr.mut g2.uh n2 (by simp))) ⟨n2, _, upd_same, t2.snoc tw⟩ (L.mono (g1.trans g2).uu)⟩
end
/-- the keys of the dict so far -/
def KeysAre (ys : List LoadI) (xs : List Load) : Prop := ys.Nodup ∧ ∀ k, k ∈ ys ↔ k ∈ xs.map toI
theorem KeysAre.put {ys : List LoadI} {xs : List Load} (h : KeysAre ys xs) (l : Load) : KeysAre (if toI l ∈ ys then ys else ys ++ [toI l]) (xs ++ [l]) := by
  have e : ∀ k, k ∈ (xs ++ [l]).map toI ↔ k ∈ ys ∨ k = toI l := fun k => by rw [List.map_append, List.mem_append, ← h.2]; simp
  split
  · rename_i hm
    exact ⟨h.1, fun k => by rw [e]; exact ⟨.inl, fun z => z.elim id fun q => q ▸ hm⟩⟩
  · rename_i hm
    refine ⟨?_, fun k => by rw [e, List.mem_append]; simp⟩
    rw [List.nodup_append]
    exact ⟨h.1, by simp, fun a ha b hb => by rw [List.mem_singleton.mp hb]; exact fun q => hm (q ▸ ha)⟩
theorem KeysAre.len {ys : List LoadI} {xs : List Load} (h : KeysAre ys xs) : ys.length ≤ xs.length := by
  have z := nodup_le0 h.1 fun k hk => (h.2 k).mp hk
  rwa [List.length_map] at z
section
variable {P : Program} {w : World} {K : PySem.W.Frag} {mg : Str → Option Value} {base : Heap} {C : Addr}
abbrev s__law_loads : Stmt := topS 56
abbrev N__law_loads : List Str := ["_law_n", "_law_m", "_law_ties", "_law_many", "_law_told", "_law_k", "_law_found", "_law_load", "_law_tie"]
theorem sc__law_loads : FnScope N__law_loads ["_law_n", "_law_m", "_law_ties", "_law_many"] (defScope s__law_loads) := ⟨rfl, rfl, rfl, by decide +kernel, rfl, by decide +kernel, by decide +kernel⟩
theorem ok__law_loads {f : Addr} {fd : FuncData} (F : Fun K "_law_loads" "_law_loads" s__law_loads f fd) (m_list : mg "list" = none) (m_range : mg "range" = none) (m_sorted : mg "sorted" = none) (F__law_more : Has P w K mg base "_law_more" 1 ["_law_load", "_law_tie"] [] (prLMore.sp C)) :
    FnOk P w K mg base CX0 2 f fd ["_law_n", "_law_m", "_law_ties", "_law_many"] (prLLoads.sp C) := by
  refine def_ok F sc__law_loads (fun _ => rfl) (by decide) fun cdv A outer s H E hr => ?_
  have nd := sc__law_loads.nd
  refine ⟨_, (pss_cons (ps_set (i := 4) nd rfl (.inl rfl) (pe_lst (pa_cons (pe_lst (pa_cons (pe_tup (pa_cons (pe_op (repT_K (K := K)) (pe_tup (pa_cons pe_int pa_nil)) (pv 0)) (pa_cons (pe_op (repT_K (K := K)) (pe_tup (pa_cons pe_int pa_nil)) (pv 1)) pa_nil))) pa_nil)) pa_nil)))
  (pss_cons (ps_for PassesOwn.never rfl (pi_range1 (by rfl) m_range (pa_cons (pv 3) pa_nil)) (pg_name (i := 5) nd rfl (.inl rfl)) (pss_cons (ps_set (i := 6) nd rfl (.inl rfl) pe_dnewL)
  (pss_cons (ps_for PassesOwn.never rfl (pi_listK (K := K) rfl (pe_ix (ix_listK (K := K)) (pv 4) (pv 5) (fun _ _ => rfl))) (pg_name (i := 7) nd rfl (.inl rfl)) (pss_one (ps_for PassesOwn.never rfl (pi_listK (K := K) rfl (pv 2)) (pg_name (i := 8) nd rfl (.inl rfl)) (pss_one (ps_putL (K := K) (hu65 hr) (pv 6) (pe_fn F__law_more (hr.mono (by decide)) (by rfl) (pa_cons (pv 7) (pa_cons (pv 8) pa_nil))) pe_bl rfl)))))
  (pss_one (ps_expr (pe_bm PySem.F.plainAttrs_list PySem.F.slot_list_append PySem.F.type_list_append mt_append (pv 4) (pa_cons (pe_callB (call_sortX (K := K) (hu65 hr)) (by rfl) m_sorted (by decide +kernel) (pa_cons (pe_callTy (keysL (K := K) rfl) (by rfl) m_list (by decide +kernel) (pa_cons (pv 6) pa_nil)) pa_nil)) pa_nil)))))))
  (pss_one (ps_ret (pv 4))))), ?_⟩
  intro y U σ Q S L hp q
  obtain ⟨n, m, ts, k⟩ := y
  obtain ⟨n1, n4, m1, m4, th, cl, h2, h3⟩ : 1 ≤ n ∧ n ≤ 4 ∧ 1 ≤ m ∧ m ≤ 4 ∧ (∀ t ∈ ts, t.1 < n) ∧ (∀ t ∈ ts, t.2 < m) ∧ ts.length ≤ 10 ∧ k ≤ 4 := hp
  have L : Lo C U σ [some (iD n), some (iD m), some (.d (.list (ts.map pairD))), some (iD k), none, none, none, none, none] := L
  refine q_asgN L S (evn_lst (ds := [LD [zeroL n m]]) (eva_cons (evn_lst (ds := [loadD (zeroL n m)]) (eva_cons (ev_zero (ev_var rfl) (ev_var rfl) n1 n4 m1 m4) eva_nil) (by simp)).ev eva_nil) (by simp)) fun pt σ1 U1 H1 g1 hpt mt L1 => ?_
  refine q_for (List.range k) (fun (j : Nat) => iD j) (fun i => [some (iD n), some (iD m), some (.d (.list (ts.map pairD))), some (iD k), some (.adr pt), none, none, none, none]) (fun i U' H' => Gr [pt] U H U' H' ∧ ∃ lss : List (List Load), lss.length = i + 1 ∧ (∀ j ls, lss[j]? = some ls → LoadsAre n m ts j ls) ∧ ML U' H' pt (lss.map LD)) L1 g1.uh
    (evi_rngN (eva_cons (ev_var rfl) eva_nil) (by omega)) (.eq (.eq (.eq (.eq (.eq (.no (.no (.no (.no .nil))))))))) (fun _ _ g => ⟨(g1.trans g).any, [[zeroL n m]], rfl, fun j ls e => ?_, mt.step g (by simp)⟩) ?_ ?_
  · cases j with
    | zero =>
      have e : [zeroL n m] = ls := Option.some.inj e
      rw [← e]
      exact are_zero n m ts
    | succ j => simp at e
  · intro i a Ub U2 H2 U3 H3 ea ⟨g2, lss, len, are, mt2⟩ _ sb g3
    obtain ⟨hi, rfl⟩ := rng_at ea
    refine ⟨_, _, evg_name, fun σ3 L3 => ?_⟩
    refine q_dnewL (P := P) (w := w) L3 g3.uh fun pd σ4 U4 H4 g4 hpd dl L4 => ?_
    have mt4 := (mt2.step g3 (by simp)).step g4 (by simp)
    have ne : pt ≠ pd := fun e => (mt2.step g3 (by simp)).here (by rw [e]; exact hpd)
    obtain ⟨ls, els⟩ : ∃ ls, lss[a]? = some ls := ⟨_, List.getElem?_eq_getElem (by omega)⟩
    have als := are a ls els
    have few : ls.length ≤ 1000 := by
      have z := als.few
      have z2 : ts.length ^ a ≤ 10 ^ 3 := Nat.le_trans (Nat.pow_le_pow_left h2 a) (Nat.pow_le_pow_right (by decide) (by omega))
      omega
    let done : Nat → List Load := fun j => (ls.take j).flatMap fun l => ts.map (oneMore l)
    have doneL : ∀ j, (done j).length ≤ 10000 := fun j => by
      have e := flat_len (fun l => ts.map (oneMore l)) ts.length (ls.take j) fun l _ => List.length_map ..
      show ((ls.take j).flatMap _).length ≤ _
      rw [e]
      have := Nat.mul_le_mul (Nat.le_trans (List.length_take_le' j ls) few) h2
      omega
    refine q_forE ls (fun l => .d (loadD l)) (fun j ρi U' H' => ρi = [some (iD n), some (iD m), some (.d (.list (ts.map pairD))), some (iD k), some (.adr pt), some (iD a), some (.adr pd), none, none] ∧ Gr [pd] U4 H4 U' H' ∧ ∃ ys, DL P w U' H' pd ys ∧ KeysAre ys (done j)) _ L4 g4.uh ?_ (.eq (.eq (.eq (.eq (.eq (.eq (.eq (.no (.no .nil))))))))) (fun _ _ g => ⟨rfl, g.any, [], dl.step g (by simp), by simp [KeysAre, done]⟩) ?_ ?_
    · have h := walk_ixP (K := K) (es := ls.map loadD) mt4 L4 g4.uh (ev_var (i := 4) rfl) (ev_var (i := 5) (d := iD a) rfl) (at_map (f := LD) els)
      rw [List.map_map] at h
      exact h
    · rintro j l ρi Ub2 U5 H5 U6 H6 el ⟨rfl, g5, ys, dl5, ka⟩ _ sb2 g6
      have hl : l ∈ ls := List.mem_of_getElem? el
      obtain ⟨d1, d2⟩ := loadsL_dim n m ts a l ((als.2 l).mp hl)
      refine ⟨_, _, evg_name, fun σ6 L6 => ?_⟩
      refine s_forE ts (fun t => .d (pairD t)) (fun j2 ρi U' H' => ρi = [some (iD n), some (iD m), some (.d (.list (ts.map pairD))), some (iD k), some (.adr pt), some (iD a), some (.adr pd), some (.d (loadD l)), none] ∧ Gr [pd] U6 H6 U' H' ∧ ∃ ys, DL P w U' H' pd ys ∧ KeysAre ys (done j ++ (ts.take j2).map (oneMore l))) _ L6 g6.uh
        ((evi_listM pairD ts (ev_var rfl)).at L6 g6.uh) (.eq (.eq (.eq (.eq (.eq (.eq (.eq (.eq (.no .nil))))))))) (fun _ _ g => ⟨rfl, g.any, ys, (dl5.step g6 (by simp)).step g (by simp), by simpa using ka⟩) ?_ ?_
      · rintro j2 t ρi Ub3 U7 H7 U8 H8 et ⟨rfl, g7, zs, dl7, kb⟩ _ sb3 g8
        have ht : t ∈ ts := List.mem_of_getElem? et
        refine ⟨_, _, evg_name, fun σ8 L8 => ?_⟩
        refine s_putL (k := toI (oneMore l t)) L8 g8.uh (ev_var rfl) ((c_lmore l t (eva_cons (ev_var rfl) (eva_cons (ev_var rfl) eva_nil)) (by rw [d1]; exact th t ht) (by rw [d2]; exact cl t ht)).to (by rw [loadD_Z])) (dl7.step g8 (by simp)) ?_ fun U9 H9 g9 dl9 L9 => ?_
        · have z1 := kb.len
          rw [List.length_append, List.length_map, List.length_take] at z1
          have := doneL j
          omega
        · refine nx_of (NxE.of (M := [pd]) (I := fun ρi U' H' => ρi = [some (iD n), some (iD m), some (.d (.list (ts.map pairD))), some (iD k), some (.adr pt), some (iD a), some (.adr pd), some (.d (loadD l)), none] ∧ Gr [pd] U6 H6 U' H' ∧ ∃ ys, DL P w U' H' pd ys ∧ KeysAre ys (done j ++ (ts.take (j2 + 1)).map (oneMore l))) sb3 g9 (L9.sub (.eq (.eq (.eq (.eq (.eq (.eq (.eq (.eq (.no .nil)))))))))) ⟨rfl, (g7.trans g8.any).trans g9, _, dl9, ?_⟩)
          rw [take_succ_at et, List.map_append, ← List.append_assoc]
          exact kb.put (oneMore l t)
      · rintro ρ1 U7 H7 σ7 L7 s1 s2 ⟨rfl, g7, zs, dl7, kb⟩
        refine nx_of (NxE.of (M := [pd]) (U0 := U6) (H0 := H6) (I := fun ρi U' H' => ρi = [some (iD n), some (iD m), some (.d (.list (ts.map pairD))), some (iD k), some (.adr pt), some (iD a), some (.adr pd), none, none] ∧ Gr [pd] U4 H4 U' H' ∧ ∃ ys, DL P w U' H' pd ys ∧ KeysAre ys (done (j + 1))) sb2 g7 (L7.sub (.eq (.eq (.eq (.eq (.eq (.eq (.eq (.no (.no .nil)))))))))) ⟨rfl, (g5.trans g6.any).trans g7, zs, dl7, ?_⟩)
        have e : done (j + 1) = done j ++ (ts.take ts.length).map (oneMore l) := by
          show (ls.take (j + 1)).flatMap _ = _
          rw [take_succ_at el, List.flatMap_append, List.take_length]
          simp [done]
        rw [e]
        exact kb
    · rintro ρ1 U5 H5 σ5 L5 s1 s2 ⟨rfl, g5, ys, dl5, ka⟩
      have mt5 : ML U5 H5 pt (lss.map LD) := mt4.step g5 (by simpa using ne)
      have eall : done ls.length = ls.flatMap fun l => ts.map (oneMore l) := by show (ls.take ls.length).flatMap _ = _; rw [List.take_length]
      rw [eall] at ka
      obtain ⟨zs, rfl, ndz⟩ := back_toI ka.1 fun k hk => (ka.2 k).mp hk
      obtain ⟨vs, pv, ev⟩ := perm_back loadD (m := zs.map loadD) (sortD_perm (zs.map loadD)) rfl
      have arev : LoadsAre n m ts (a + 1) vs := ⟨(pv.nodup_iff).mpr ndz, fun l => by rw [pv.mem_iff, als.step l, ← mem_toI, ka.2, mem_toI]⟩
      refine s_appV (c := LD vs) L5 s2 (ev_var rfl) mt5 (by rw [List.length_map, len]; omega) (fun U6 H6 g6 L6 Q q6 => ?_) fun U6 H6 g6 mt6 L6 => ?_
      · refine run_sortX (ds := zs.map loadD) g6.uh (fun Q2 q2 => ?_) (by rw [loadsD, List.map_map]; exact so_loads toI zs) fun v U7 H7 g7 tv => q6 v U7 H7 g7 ?_
        · refine run_keysL L6 g6.uh (ev_var rfl) (dl5.step g6 (by simp)) ?_ fun v U7 H7 g7 tv => q2 v U7 H7 g7 ?_
          · have z := ka.len
            have e := doneL ls.length
            rw [eall] at e
            omega
          · rw [loadsD]
            exact tv
        · rw [← ev] at tv
          exact tv
      · refine nx_of (Nxt.of (M := [pt, pd]) (U0 := U3) (H0 := H3) sb ((g4.any.trans (g5.wide (by simp))).trans (g6.wide (by simp))) (L6.sub (.eq (.eq (.eq (.eq (.eq (.no (.no (.no (.no .nil)))))))))) ⟨?_, lss ++ [vs], by simp [len], fun j ls' e => ?_, by rw [List.map_append]; exact mt6⟩)
        · have hpd0 : H2 pd = none := g3.same.free hpd
          have hpdH : H pd = none := by
            cases e2 : H pd with
            | none => rfl
            | some o => exact absurd hpd0 (g2.st pd (by rw [e2]; intro z; cases z))
          have gg : Gr [pt, pd] U H U6 H6 := (((g2.wide (by simp)).trans g3.any).trans g4.any).trans ((g5.wide (by simp)).trans (g6.wide (by simp)))
          exact ⟨gg.uu, gg.uh, fun b o hb hn => gg.hh b o hb (by
            simp only [List.mem_cons, List.not_mem_nil, or_false] at hn ⊢
            rintro (rfl | rfl)
            · exact hn rfl
            · rw [hpdH] at hb; cases hb), gg.fr, gg.st⟩
        · by_cases hj : j < lss.length
          · rw [List.getElem?_append_left hj] at e
            exact are j ls' e
          · rw [List.getElem?_append_right (by omega)] at e
            have ej : j = a + 1 := by
              have := (List.getElem?_eq_some_iff.mp e).1
              simp at this
              omega
            subst ej
            rw [len, Nat.sub_self] at e
            have e : vs = ls' := Option.some.inj e
            rw [← e]
            exact arev
  · intro U2 H2 σ2 L2 s1 s2 ⟨g2, lss, len, are, mt2⟩
    rw [List.length_range] at len
    refine s_retL 4 S g2 hpt mt2 L2 rfl fun v U3 g3 tv e3 z3 => ?_
    exact q v (.d (.list (lss.map LD))) U3 H2 (g3.drop (by simpa using hpt)) tv ⟨lss, rfl, len, are⟩
end
end Kx
end
section
set_option Elab.async false
set_option linter.all false
set_option maxRecDepth 100000
set_option maxHeartbeats 4000000
namespace Kx
open PySem PySem.Spec L2
open PyProof.Rows (envOfC)
abbrev prLBy : Prm WebA := .fn (fun x => [iD x.1, iD x.2.1, .d (.list (x.2.2.map pairD))]) (fun x => 1 ≤ x.1 ∧ x.1 ≤ 4 ∧ 1 ≤ x.2.1 ∧ x.2.1 ≤ 4 ∧ (∀ t ∈ x.2.2, t.1 < x.1) ∧ (∀ t ∈ x.2.2, t.2 < x.2.1) ∧ x.2.2.length ≤ 10) fun x => .d (intsD (fromN (x.1 + x.2.1 - 1) (cnts x.1 x.2.1 x.2.2)))
/-- what the law asks of a web and its inward numbers -/
structure AskOk (n m : Nat) (ts : List (Nat × Nat)) (I : List Int) : Prop where
  few : ts.length ≤ 9
  ok : WebOk n m ts
  rows : shownRows n m ts ≠ []
  ord : ∀ o, IsOrd m o → asI (inwardN n m ts o) = I
  fin : WebIn m n (flipT ts)
  fok : WebOk m n (sortP (flipT ts))
  frows : shownRows m n (sortP (flipT ts)) ≠ []
  ford : ∀ o, IsOrd n o → asI (inwardN m n (sortP (flipT ts)) o) = I
  back : fromN (n + m - 1) (cnts n m ts) = I
def spAsked (C : Addr) : Sp := fun vs H Q _ => ∃ (p : Addr) (U : Hp) (n m : Nat) (ts : List (Nat × Nat)) (I : List Int) (wv iv : V), vs = [.ref p, wv, .int n, .int m, iv] ∧ Same U H ∧ HandOk U H p ∧ Rp C U wv (.web n m ts) ∧ Td U iv (intsD I) ∧ AskOk n m ts I ∧ ∀ U' H', Gr [p] U H U' H' → HandOk U' H' p → Q (.bl true) H'
theorem len_spAsked {C : Addr} {vs : List V} {H : Hp} {Q : VK} {E : XK} (h : spAsked C vs H Q E) : vs.length = 5 := by
  obtain ⟨p, U, n, m, ts, I, wv, iv, rfl, _⟩ := h
  rfl
/-! values told by a word while the hand is drawn from -/
def EvMP (C : Addr) (te : TE) (ρ : Ro) (p : Addr) (P : DV → Prop) : Prop := ∀ (σ : L2.St) (U H : Hp), Lo C U σ ρ → Same U H → HandOk U H p → ∀ Q : VK, (∀ v d U' H', Gr [p] U H U' H' → HandOk U' H' p → Rp C U' v d → P d → Q v H') → te σ H Q
section
variable {C : Addr} {K : PySem.W.Frag} {ρ : Ro} {ta tb te : TE} {t : TA} {E : XK} {p : Addr} {n m : Nat} {ts : List (Nat × Nat)} {P1 P2 R : DV → Prop} {d1 d2 d : DV} {α : Type} {Pm : Prm α} {σ : L2.St} {U H : Hp} {D : Ends} {tu tw tz : TS} {ds : List PyData}
theorem c_lby (h : EvA C t ρ [iD n, iD m, .d (.list (ts.map pairD))]) (n1 : 1 ≤ n) (n4 : n ≤ 4) (m1 : 1 ≤ m) (m4 : m ≤ 4) (th : ∀ t ∈ ts, t.1 < n) (cl : ∀ t ∈ ts, t.2 < m) (h2 : ts.length ≤ 10) : Ev C (tCall (prLBy.sp C) [] E t) ρ (.d (intsD (fromN (n + m - 1) (cnts n m ts)))) :=
  ev_fn (args := prLBy.args) (pre := prLBy.pre) (n, m, ts) h ⟨n1, n4, m1, m4, th, cl, h2⟩
theorem em_of (h : Ev C te ρ d) : EvMP C te ρ p (· = d) := fun σ U H L S ho Q q => h σ U H L S Q fun v U1 H1 g1 r1 => q v d U1 H1 g1.any (ho.step g1 (by simp)) r1 rfl
theorem em_call2 (h1 : EvMP C ta ρ p P1) (h2 : EvMP C tb ρ p P2) (hx : ∀ d1 d2, P1 d1 → P2 d2 → ∃ x, Pm.args x = [d1, d2] ∧ Pm.pre x ∧ ∀ d, Pm.post x d → R d) : EvMP C (tCall (Pm.sp C) [] E (tCons ta (tCons tb tNil))) ρ p R := fun σ U H L S ho Q q =>
  h1 σ U H L S ho _ fun v1 d1 U1 H1 g1 ho1 r1 p1 => h2 σ U1 H1 (L.mono g1.uu) g1.uh ho1 _ fun v2 d2 U2 H2 g2 ho2 r2 p2 => by
    obtain ⟨x, e, pre, post⟩ := hx d1 d2 p1 p2
    refine ⟨x, U2, g2.uh, by rw [e]; exact .cons (r1.mono g2.uu) (.cons r2 .nil), pre, fun v d U3 H3 g3 r3 p3 => q v d U3 H3 ((g1.trans g2).trans g3.any) (ho2.step g3 (by simp)) r3 (post d p3)⟩
theorem em_order (hh : Ev C ta ρ (.adr p)) (hm : Ev C tb ρ (iD m)) (h1 : m ≤ 100) : EvMP C (tCall spDrawnOrd [] E (tCons ta (tCons tb tNil))) ρ p (fun d => ∃ o, IsOrd m o ∧ d = .d (nL o)) := fun σ U H L S ho Q q =>
  hh σ U H L S _ fun v U1 H1 g1 r1 => hm σ U1 H1 (L.mono g1.uu) g1.uh _ fun w U2 H2 g2 r2 => by
    obtain rfl : v = .ref p := r1
    cases Td.toInt r2
    have g := g1.trans g2
    exact ⟨p, U2, m, rfl, g2.uh, ho.step g (by simp), h1, fun o v U3 H3 io g3 ho3 tv => q v (.d (nL o)) U3 H3 (g.any.trans g3) ho3 tv ⟨o, io, rfl⟩⟩
theorem em_tuple (h : EvMP C te ρ p (fun d => ∃ o, IsOrd m o ∧ d = .d (nL o))) : EvMP C (tCB (fun xs H Q => ∃ p ys, xs = [V.ref p] ∧ ((SqL K H p ys ∧ ∀ l, H l = none → Q (.ref l) (upd H l (.tup ys))) ∨ (SqT K H p ys ∧ Q (.ref p) H))) (tCons te tNil)) ρ p (fun d => ∃ o, IsOrd m o ∧ d = .d (nT o)) := fun σ U H L S ho Q q =>
  h σ U H L S ho _ fun v d U1 H1 g1 ho1 r1 ⟨o, io, e⟩ => by
    subst e
    obtain ⟨x, vs, rfl, hx, tx⟩ := Td.toLst r1
    refine ⟨x, vs, rfl, .inl ⟨SqL.of (g1.uh _ _ hx), fun l hl => ?_⟩⟩
    have ul := up_none g1.uh hl
    have g2 : Gr [] U1 H1 (upd U1 l (.tup vs)) (upd H1 l (.tup vs)) := Gr.new g1.uh hl
    exact q _ _ _ _ (g1.trans g2.any) (ho1.step g2 (by simp)) (show Rp C _ _ (.d (nT o)) from Td.tup upd_same (tx.mono (same_upd ul))) ⟨o, io, rfl⟩
/-- if not e: .., e true -/
theorem s_notM (L : Lo C U σ ρ) (S : Same U H) (ho : HandOk U H p) (h : EvMP C te ρ p (· = bD true)) (k : ∀ U' H', Gr [p] U H U' H' → HandOk U' H' p → Lo C U' σ ρ → tw D σ H') : tIfS (tNot (tB te)) tu tw D σ H := by
  show te σ H _
  refine h σ U H L S ho _ fun v d U1 H1 g1 ho1 r1 e => ?_
  subst e
  exact ⟨true, Td.toBl r1, iteF (k U1 H1 g1 ho1 (L.mono g1.uu))⟩
theorem q_notM (L : Lo C U σ ρ) (S : Same U H) (ho : HandOk U H p) (h : EvMP C te ρ p (· = bD true)) (k : ∀ U' H', Gr [p] U H U' H' → HandOk U' H' p → Lo C U' σ ρ → tz D σ H') : tSeq (tIfS (tNot (tB te)) tu tNext) tz D σ H := s_notM (D := { D with nx := tz D }) L S ho h k
theorem em_exact {I : List Int} (h1 : EvMP C ta ρ p (· = .d (intsD I))) (h2 : Ev C tb ρ (.d (intsD I))) (few : I.length ≤ 1000) : EvMP C (tCall (prExT.sp C) [] E (tCons ta (tCons tb tNil))) ρ p (· = bD true) :=
  em_call2 (Pm := prExT) h1 (em_of h2) fun d1 d2 e1 e2 => ⟨(I, I), by rw [e1, e2]; rfl, few, fun d e => by rw [e]; exact congrArg bD (decide_eq_true rfl)⟩
end
theorem nT_I {l : List Nat} {I : List Int} (h : asI l = I) : DV.d (nT l) = .d (intsD I) := by rw [← h, nT_asI]
theorem fromN_len (a : Nat) (ns : List Nat) : (fromN a ns).length ≤ ns.length := by
  unfold fromN stripI
  refine Nat.le_trans (List.length_take_le' _ _) ?_
  unfold backI
  rw [List.length_map, List.length_range]
  exact Nat.le_refl _
theorem cnts_len (n m : Nat) (ts : List (Nat × Nat)) : (cnts n m ts).length = min n m := by unfold cnts; rw [List.length_map, List.length_range]
theorem cnts_small {n m : Nat} {ts : List (Nat × Nat)} (hn : n ≤ 4) (ht : ts.length ≤ 10) : ∀ k ∈ cnts n m ts, k ≤ 100000 := fun k hk => by
  obtain ⟨i, hi, rfl⟩ := List.mem_map.mp hk
  have hi := List.mem_range.mp hi
  have z := cnt_le n m ts i
  have z2 : ts.length ^ i ≤ 10 ^ 4 := Nat.le_trans (Nat.pow_le_pow_left ht i) (Nat.pow_le_pow_right (by decide) (by omega))
  omega
section
variable {P : Program} {w : World} {K : PySem.W.Frag} {mg : Str → Option Value} {base : Heap} {C : Addr}
abbrev s__law_by_loads : Stmt := topS 59
abbrev N__law_by_loads : List Str := ["_law_n", "_law_m", "_law_ties", "_law_loads_here", "_law_row"]
theorem sc__law_by_loads : FnScope N__law_by_loads ["_law_n", "_law_m", "_law_ties"] (defScope s__law_by_loads) := ⟨rfl, rfl, rfl, by decide +kernel, rfl, by decide +kernel, by decide +kernel⟩
theorem ok__law_by_loads {f : Addr} {fd : FuncData} (F : Fun K "_law_by_loads" "_law_by_loads" s__law_by_loads f fd) (m_len : mg "len" = none) (m_min : mg "min" = none) (F__law_back : Has P w K mg base "_law_back" 2 ["_law_above", "_law_numbers"] [] (prLBack.sp C)) (F__law_loads : Has P w K mg base "_law_loads" 2 ["_law_n", "_law_m", "_law_ties", "_law_many"] [] (prLLoads.sp C)) :
    FnOk P w K mg base CX0 3 f fd ["_law_n", "_law_m", "_law_ties"] (prLBy.sp C) := by
  refine def_ok F sc__law_by_loads (fun _ => rfl) (by decide) fun cdv A outer s H E hr => ?_
  have nd := sc__law_by_loads.nd
  refine ⟨_, (pss_cons (ps_set (i := 3) nd rfl (.inl rfl) (pe_fn F__law_loads (hr.mono (by decide)) (by rfl) (pa_cons (pv 0) (pa_cons (pv 1) (pa_cons (pv 2) (pa_cons (pe_op op_sub (pe_callB (call_min2 rfl) (by rfl) m_min (by decide +kernel) (pa_cons (pv 0) (pa_cons (pv 1) pa_nil))) pe_int) pa_nil))))))
  (pss_one (ps_ret (pe_fn F__law_back (hr.mono (by decide)) (by rfl) (pa_cons (pe_op op_sub (pe_op op_add (pv 0) (pv 1)) pe_int) (pa_cons (pe_lc (own := [("_law_row", 4)]) (g := gName 4) rfl nd (pi_listK (K := K) rfl (pv 3)) (blkOk_by (own := [("_law_row", 4)]) (N := N__law_by_loads) (sc := defScope s__law_by_loads) (by decide +kernel)) (fun _ _ _ _ _ => (pg_name (i := 4) nd rfl (.inl rfl))) (fun _ _ _ _ _ => pts_nil) (fun _ _ _ _ _ => (pe_callB (len_K (K := K)) (by rfl) m_len (by decide +kernel) (pa_cons (pv 4) pa_nil)))) pa_nil)))))), ?_⟩
  intro y U σ Q S L hp q
  obtain ⟨n, m, ts⟩ := y
  obtain ⟨n1, n4, m1, m4, th, cl, few⟩ : 1 ≤ n ∧ n ≤ 4 ∧ 1 ≤ m ∧ m ≤ 4 ∧ (∀ t ∈ ts, t.1 < n) ∧ (∀ t ∈ ts, t.2 < m) ∧ ts.length ≤ 10 := hp
  have L : Lo C U σ [some (iD n), some (iD m), some (.d (.list (ts.map pairD))), none, none] := L
  refine q_asgP L S (c_lloads (min n m - 1) (eva_cons (ev_var rfl) (eva_cons (ev_var rfl) (eva_cons (ev_var rfl) (eva_cons ((ev_op (ev_minN (ev_var rfl) (ev_var rfl)) ev_int (rv_I0 rfl)).to (b := iD (min n m - 1 : Nat)) (congrArg iD (by omega))) eva_nil)))) n1 n4 m1 m4 th cl few (by omega)) fun d σ1 U1 H1 pd g1 L1 => ?_
  obtain ⟨lss, rfl, len, are⟩ := pd
  have ecnt : lss.map List.length = cnts n m ts := by
    unfold cnts
    apply List.ext_getElem
    · rw [List.length_map, List.length_map, List.length_range, len]
      omega
    · intro i h1 h2
      rw [List.length_map] at h1
      rw [List.getElem_map, List.getElem_map, List.getElem_range]
      exact (are i lss[i] (List.getElem?_eq_getElem h1)).cnt
  refine s_ret L1 g1.uh (c_lback (n + m - 1) (cnts n m ts) (eva_cons ((ev_op (ev_op (ev_var rfl) (ev_var rfl) (rv_I0 rfl)) ev_int (rv_I0 rfl)).to (b := iD (n + m - 1 : Nat)) (congrArg iD (by omega))) (eva_cons ((evn_lc (js := [4]) lss (fun ls => .d (LD ls)) (fun ls => nI ls.length) (evi_listM LD lss (ev_var rfl)) (by omega) (by simp)
    (fun ls hls => ⟨_, evg_name, ev_call (eva_cons (ev_var rfl) eva_nil) rc_lenLM⟩)).ev.to ?_) eva_nil)) (by omega) (by rw [cnts_len]; omega) (cnts_small n4 few)) fun v U2 H2 g2 r2 => q v _ U2 H2 (g1.trans g2) r2 rfl
  rw [← ecnt]
  unfold nL
  rw [List.map_map]
  rfl
abbrev s__law_asked : Stmt := topS 60
abbrev N__law_asked : List Str := ["_law_hand_here", "_law_web_here", "_law_n", "_law_m", "_law_inward", "_law_k", "_law_told", "_law_size_here"]
theorem sc__law_asked : FnScope N__law_asked ["_law_hand_here", "_law_web_here", "_law_n", "_law_m", "_law_inward"] (defScope s__law_asked) := ⟨rfl, rfl, rfl, by decide +kernel, rfl, by decide +kernel, by decide +kernel⟩
theorem ok__law_asked {f : Addr} {fd : FuncData} (F : Fun K "_law_asked" "_law_asked" s__law_asked f fd) (m_len : mg "len" = none) (m_min : mg "min" = none) (m_range : mg "range" = none) (m_tuple : mg "tuple" = none) (F__law_exact : Has P w K mg base "_law_exact" 3 ["_law_told", "_law_due"] [] (prExT.sp C)) (F__law_order : Has P w K mg base "_law_order" 3 ["_law_hand_here", "_law_m"] [] spDrawnOrd) (F_all_loads : Has P w K mg base "all_loads" 3 ["web", "many"] [] (prAll.sp C)) (F_inward_by : Has P w K mg base "inward_by" 6 ["web", "order"] [] (prInward.sp C)) (F_inward_from : Has P w K mg base "inward_from" 3 ["web", "numbers"] [] (prFrom.sp C)) (F_inward_of : Has P w K mg base "inward_of" 7 ["web"] [] (prInwardOf.sp C)) (F_thing_inward : Has P w K mg base "thing_inward" 8 ["web"] [] (prThingInw.sp C)) (F_turned_over : Has P w K mg base "turned_over" 5 ["web"] [] (prTurned.sp C)) :
    FnOk P w K mg base CX0 9 f fd ["_law_hand_here", "_law_web_here", "_law_n", "_law_m", "_law_inward"] (spAsked C) := by
  refine F.ok sc__law_asked (fun vs H Q E h => len_spAsked h) fun cdv A outer s H vs Q E hr h => ?_
  have nd := sc__law_asked.nd
  refine ⟨_, (pss_cons (ps_if (PW.pt (pw_or (pt_not (pt_val (pe_fn F__law_exact (hr.mono (by decide)) (by rfl) (pa_cons (pe_fn F_inward_of (hr.mono (by decide)) (by rfl) (pa_cons (pv 1) pa_nil)) (pa_cons (pv 4) pa_nil))))) (pw_or1 (pt_not (pt_val (pe_fn F__law_exact (hr.mono (by decide)) (by rfl) (pa_cons (pe_fn F_thing_inward (hr.mono (by decide)) (by rfl) (pa_cons (pv 1) pa_nil)) (pa_cons (pv 4) pa_nil)))))))) (pss_one (ps_ret pe_bl)) pss_nil)
  (pss_cons (ps_for PassesOwn.never rfl (pi_range1 (by rfl) m_range (pa_cons pe_int pa_nil)) (pg_name (i := 5) nd rfl (.inl rfl)) (pss_one (ps_if (pt_not (pt_val (pe_fn F__law_exact (hr.mono (by decide)) (by rfl) (pa_cons (pe_fn F_inward_by (hr.mono (by decide)) (by rfl) (pa_cons (pv 1) (pa_cons (pe_fn F__law_order (hr.mono (by decide)) (by rfl) (pa_cons (pv 0) (pa_cons (pv 3) pa_nil))) pa_nil))) (pa_cons (pv 4) pa_nil))))) (pss_one (ps_ret pe_bl)) pss_nil)))
  (pss_cons (ps_if (pt_not (pt_val (pe_fn F__law_exact (hr.mono (by decide)) (by rfl) (pa_cons (pe_fn F_inward_by (hr.mono (by decide)) (by rfl) (pa_cons (pe_fn F_turned_over (hr.mono (by decide)) (by rfl) (pa_cons (pv 1) pa_nil)) (pa_cons (pe_callTy (tuple_K (K := K)) (by rfl) m_tuple (by decide +kernel) (pa_cons (pe_fn F__law_order (hr.mono (by decide)) (by rfl) (pa_cons (pv 0) (pa_cons (pv 2) pa_nil))) pa_nil)) pa_nil))) (pa_cons (pv 4) pa_nil))))) (pss_one (ps_ret pe_bl)) pss_nil)
  (pss_cons (ps_setLc (i := 6) (own := [("_law_size_here", 7)]) (g := gName 7) rfl nd rfl rfl (sw_true rfl rfl rfl (by decide +kernel)) (pi_range1 (by rfl) m_range (pa_cons (pe_callB (call_min2 rfl) (by rfl) m_min (by decide +kernel) (pa_cons (pv 2) (pa_cons (pv 3) pa_nil))) pa_nil)) (blkOk_by (own := [("_law_size_here", 7)]) (N := N__law_asked) (sc := defScope s__law_asked) (by decide +kernel)) (fun _ _ _ _ _ => (pg_name (i := 7) nd rfl (.inl rfl))) (fun _ _ _ _ _ => pts_nil) (fun _ _ _ _ _ => (pe_callB (len_K (K := K)) (by rfl) m_len (by decide +kernel) (pa_cons (pe_fn F_all_loads (hr.mono (by decide)) (by rfl) (pa_cons (pv 1) (pa_cons (pv 7) pa_nil))) pa_nil))))
  (pss_one (ps_ret (pe_fn F__law_exact (hr.mono (by decide)) (by rfl) (pa_cons (pe_fn F_inward_from (hr.mono (by decide)) (by rfl) (pa_cons (pv 1) (pa_cons (pv 6) pa_nil))) (pa_cons (pv 4) pa_nil))))))))), ?_⟩
  obtain ⟨p, U, n, m, ts, I, wv, iv, rfl, S, ho, hw, hI, ask, q⟩ := h
  have L : Lo C U (L2.start N__law_asked [.ref p, wv, .int n, .int m, iv]) ([some (.adr p), some (.web n m ts), some (iD n), some (iD m), some (.d (intsD I))] ++ List.replicate (N__law_asked.length - 5) none) :=
    loc_start (ds := [.adr p, .web n m ts, iD n, iD m, .d (intsD I)]) (.cons rfl (.cons hw (.cons (.int _) (.cons (.int _) (.cons hI .nil))))) (by show 5 ≤ 8; decide)
  generalize L2.start N__law_asked [.ref p, wv, .int n, .int m, iv] = σ at L
  have L : Lo C U σ [some (.adr p), some (.web n m ts), some (iD n), some (iD m), some (.d (intsD I)), none, none, none] := L
  have n1 := ask.ok.n1
  have n4 := ask.ok.n4
  have m1 := ask.ok.m1
  have m4 := ask.ok.m4
  have fewI : I.length ≤ 4 := by
    rw [← ask.back]
    have := fromN_len (n + m - 1) (cnts n m ts)
    rw [cnts_len] at this
    omega
  have ex : ∀ b : Bool, b = decide (I = I) → (!b) = false := fun b e => by rw [e, decide_eq_true rfl]; rfl
  refine q_skip L S ((evt_or (evt_not (evt_B (c_exT I I (eva_cons ((c_inwardOf (eva_cons (ev_var rfl) eva_nil) ask.ok ask.rows).to (nT_I (ask.ord _ (List.Perm.refl _)))) (eva_cons (ev_var rfl) eva_nil)) (by omega)))) fun _ =>
    evt_not (evt_B (c_exT I I (eva_cons ((c_thingInw (eva_cons (ev_var rfl) eva_nil) ask.fin ask.fok ask.frows).to (nT_I (ask.ford _ (List.Perm.refl _)))) (eva_cons (ev_var rfl) eva_nil)) (by omega)))).to (by simp)) fun U1 H1 g1 L1 => ?_
  have ho1 := ho.step g1 (by simp)
  refine q_for (List.range 2) (fun (j : Nat) => iD j) (fun i => [some (.adr p), some (.web n m ts), some (iD n), some (iD m), some (.d (intsD I)), none, none, none]) (fun i U' H' => Gr [p] U H U' H' ∧ HandOk U' H' p) L1 g1.uh (evi_rngN (n := 2) (eva_cons ev_int eva_nil) (by decide)) (.eq (.eq (.eq (.eq (.eq (.no (.no (.no .nil)))))))) (fun _ _ g => ⟨(g1.trans g).any, ho1.step g (by simp)⟩) ?_ ?_
  · intro i a Ub U2 H2 U3 H3 ea ⟨g2, h2⟩ _ sb g3
    refine ⟨_, _, evg_name, fun σ3 L3 => ?_⟩
    refine s_notM L3 g3.uh (h2.step g3 (by simp)) (em_exact (em_call2 (Pm := prInward) (em_of (ev_var rfl)) (em_order (ev_var rfl) (ev_var rfl) (by omega)) fun d1 d2 e1 ⟨o, io, e2⟩ => ⟨((n, m, ts), true, o), by rw [e1, e2]; rfl, ⟨io, ask.ok, ask.rows⟩, fun d e => e.trans (nT_I (ask.ord o io))⟩) (ev_var rfl) (by omega)) fun U4 H4 g4 h4 L4 => ?_
    exact nx_of (Nxt.of (M := [p]) sb g4 (L4.sub (.eq (.eq (.eq (.eq (.eq (.no (.no (.no .nil))))))))) ⟨(g2.trans g3.any).trans g4, h4⟩)
  · intro U2 H2 σ2 L2 s1 s2 ⟨g2, h2⟩
    refine q_notM L2 s2 h2 (em_exact (em_call2 (Pm := prInward) (em_of (c_turned (eva_cons (ev_var rfl) eva_nil) ask.fin)) (em_tuple (em_order (ev_var rfl) (ev_var rfl) (by omega))) fun d1 d2 e1 ⟨o, io, e2⟩ => ⟨((m, n, sortP (flipT ts)), false, o), by rw [e1, e2]; rfl, ⟨io, ask.fok, ask.frows⟩, fun d e => e.trans (nT_I (ask.ford o io))⟩) (ev_var rfl) (by omega)) fun U3 H3 g3 h3 L3 => ?_
    refine q_asg L3 g3.uh ((evn_lc (js := [7]) (List.range (min n m)) (fun (k : Nat) => iD k) (fun k => nI (cnt n m ts k)) (evi_rngN (eva_cons (ev_minN (ev_var rfl) (ev_var rfl)) eva_nil) (by omega)) (by rw [List.length_range]; omega) (by simp)
      (fun k hk => ⟨_, evg_name, ev_callP (c_all k (eva_cons (ev_var rfl) (eva_cons (ev_var rfl) eva_nil)) ask.ok ask.few (by have := List.mem_range.mp hk; omega)) fun d2 ⟨ls, e, are⟩ => by
        rw [e, ← are.cnt]
        exact rc_lenTM⟩)).ev.to (b := .d (nL (cnts n m ts))) ?_) fun σ4 U4 H4 g4 L4 => ?_
    · unfold nL cnts
      rw [List.map_map]
      rfl
    · refine s_ret L4 g4.uh (c_exT I I (eva_cons ((c_from (cnts n m ts) (eva_cons (ev_var rfl) (eva_cons (ev_var rfl) eva_nil)) ask.ok (cnts_len n m ts) (cnts_small n4 (by have := ask.few; omega))).to (by rw [ask.back])) (eva_cons (ev_var rfl) eva_nil)) (by omega)) fun v U5 H5 g5 r5 => ?_
      have e : v = .bl true := (Td.toBl r5).trans (congrArg V.bl (decide_eq_true rfl))
      subst e
      exact q U5 H5 ((g2.trans g3).trans (g4.trans g5).any) ((h3.step g4 (by simp)).step g5 (by simp))
end
end Kx
end
section
set_option Elab.async false
set_option linter.all false
set_option maxRecDepth 100000
set_option maxHeartbeats 4000000
namespace Kx
open PySem PySem.Spec L2
open PyProof.Rows (envOfC)
/-- the web with one tie more -/
structure GrowOk (n m : Nat) (ts : List (Nat × Nat)) (I : List Int) : Prop where
  inn : WebIn n m ts
  few : ts.length ≤ 10
  so : sortP ts = ts
  rows : shownRows n m ts ≠ []
  told : asI (inwardN n m ts (List.range m)) = fromN (n + m - 1) (cnts n m ts)
  len : I.length ≤ (fromN (n + m - 1) (cnts n m ts)).length
  le : ∀ k, k < I.length → I.getD k 0 ≤ (fromN (n + m - 1) (cnts n m ts)).getD k 0
/-- what the law asks of a web drawn -/
structure LawOk (n m : Nat) (ts : List (Nat × Nat)) (I : List Int) : Prop where
  inn : WebIn n m ts
  so : sortP ts = ts
  ask : AskOk n m ts I
  small : ∀ z ∈ I, -100000 ≤ z ∧ z ≤ 100000
  due : ts.length ≤ 7 ∨ min n m < 4 → loadCntI I (min n m) (n + m - 2) = cnt n m ts (min n m)
  grow : ∀ t : Nat × Nat, t.1 < n → t.2 < m → t ∉ ts → GrowOk n m (sortP (ts ++ [t])) I
def LawAll : Prop := ∀ n m ts, Drawn n m ts → ∃ I, LawOk n m ts I
def spLaw (K : PySem.W.Frag) : Sp := fun vs H Q _ => ∃ (p : Addr) (U : Hp) (ns : List Int), vs = [.ref p] ∧ LawAll ∧ Same U H ∧ SqL K U p (ns.map V.int) ∧ ns.length ≤ 90000 ∧ ∀ H', Q (.bl true) H'
theorem len_spLaw {K : PySem.W.Frag} {vs : List V} {H : Hp} {Q : VK} {E : XK} (h : spLaw K vs H Q E) : vs.length = 1 := by
  obtain ⟨p, U, ns, rfl, _⟩ := h
  rfl
section
variable {C : Addr} {K : PySem.W.Frag} {ρ : Ro} {ta tb te : TE} {t : TA} {E : XK} {p : Addr} {n m : Nat} {ts : List (Nat × Nat)} {P1 P2 R : DV → Prop} {d1 d2 d : DV} {σ : L2.St} {U H : Hp} {D : Ends} {tu tw tz : TS} {ds : List PyData} {c e f : PyData} {j l k : Nat} {I : List Int} {r : R2}
theorem evg_trip : EvG C (gTup K 3 (gCons (gName j) (gCons (gName l) (gCons (gName k) gNil)))) [j, l, k] (.d (.tuple [c, e, f])) ρ (((ρ.set j (some (.d c))).set l (some (.d e))).set k (some (.d f))) := fun σ U H x L S r Q q => by
  obtain ⟨p, vs, rfl, hp, t⟩ := Td.toTup r
  cases t with
  | cons h1 t =>
    cases t with
    | cons h2 t =>
      cases t with
      | cons h3 t =>
        cases t
        refine ⟨p, _, rfl, SqT.of (S _ _ hp), rfl, _, _, rfl, _, _, rfl, _, _, rfl, rfl, ?_⟩
        refine q _ (((L.set (d := .d c) h1).set (d := .d e) h2).set (d := .d f) h3) (by rw [List.length_set, List.length_set, List.length_set]) fun i hi => ?_
        simp only [List.mem_cons, not_or, List.not_mem_nil, not_false_eq_true, and_true] at hi
        rw [List.getElem?_set_ne (fun z => hi.2.2 z.symm), List.getElem?_set_ne (fun z => hi.2.1 z.symm), List.getElem?_set_ne (fun z => hi.1 z.symm)]
theorem em_asked (h : EvA C t ρ [.adr p, .web n m ts, iD n, iD m, .d (intsD I)]) (ok : AskOk n m ts I) : EvMP C (tCall (spAsked C) [] E t) ρ p (· = bD true) := fun σ U H L S ho Q q =>
  h σ U H L S _ fun vs U1 H1 g1 r1 => by
    cases r1 with
    | cons a1 r1 =>
      cases r1 with
      | cons a2 r1 =>
        cases r1 with
        | cons a3 r1 =>
          cases r1 with
          | cons a4 r1 =>
            cases r1 with
            | cons a5 r1 =>
              cases r1
              cases Td.toInt a3
              cases Td.toInt a4
              obtain rfl : _ = V.ref p := a1
              exact ⟨p, U1, n, m, ts, I, _, _, rfl, g1.uh, ho.step g1 (by simp), a2, a5, ok, fun U2 H2 g2 h2 => q _ (bD true) U2 H2 (g1.any.trans g2) h2 (show Td _ _ _ from .bl true) rfl⟩
theorem em_take (hh : Ev C ta ρ (.adr p)) (hm : Ev C tb ρ (iD n)) (h0 : 0 < n) (h1 : n ≤ 1000) : EvMP C (tCall spTake [] E (tCons ta (tCons tb tNil))) ρ p (fun d => ∃ z, z < n ∧ d = iD (z : Nat)) := fun σ U H L S ho Q q =>
  run_take L S hh ho h0 h1 (arg_ev S hm) fun z U1 H1 hz g1 ho1 L1 => q _ (iD z) U1 H1 g1 ho1 (show Td _ _ _ from .int z) ⟨z, hz, rfl⟩
theorem em_opR (ha : Ev C ta ρ d1) (hb : EvMP C tb ρ p P1) (hr : ∀ d, P1 d → ∃ d2, P2 d2 ∧ RV C r d1 d d2) : EvMP C (tOp r ta tb) ρ p P2 := fun σ U H L S ho Q q =>
  ha σ U H L S _ fun v U1 H1 g1 r1 => hb σ U1 H1 (L.mono g1.uu) g1.uh (ho.step g1 (by simp)) _ fun w d U2 H2 g2 ho2 r2 p2 => by
    obtain ⟨d2, p3, h⟩ := hr d p2
    exact h U2 H2 v w g2.uh (r1.mono g2.uu) r2 Q fun z U3 H3 g3 r3 => q z d2 U3 H3 ((g1.any.trans g2).trans g3.any) (ho2.step g3 (by simp)) r3 p3
theorem rv_cat {es : List PyData} (hl : ds.length + es.length ≤ 100000) : RV C rCat (.d (.list ds)) (.d (.list es)) (.d (.list (ds ++ es))) := fun U H x y S rx ry Q q => by
  obtain ⟨p, vs, rfl, hp, t⟩ := Td.toLst rx
  obtain ⟨p', ws, rfl, hp', t'⟩ := Td.toLst ry
  refine ⟨p, p', vs, ws, rfl, rfl, S _ _ hp, S _ _ hp', szle (by rw [t.length, t'.length]; exact hl), fun l hl => ?_⟩
  exact q _ _ _ (Gr.new S hl) (Td.lst upd_same ((t.append t').mono (same_upd (up_none S hl))))
theorem em_lst1 (h : EvMP C te ρ p P1) (hd : ∀ d, P1 d → ∃ c, d = .d c) : EvMP C (tLst (tCons te tNil)) ρ p (fun d => ∃ c, P1 (.d c) ∧ d = .d (.list [c])) := fun σ U H L S ho Q q =>
  h σ U H L S ho _ fun v d U1 H1 g1 ho1 r1 p1 => by
    obtain ⟨c, rfl⟩ := hd d p1
    refine ⟨by show 1 ≤ sizeLine; decide, fun l hl => ?_⟩
    have g2 : Gr [] U1 H1 (upd U1 l (.lst [v])) (upd H1 l (.lst [v])) := Gr.new g1.uh hl
    exact q _ _ _ _ (g1.trans g2.any) (ho1.step g2 (by simp)) (show Rp C _ _ (.d (.list [c])) from Td.lst upd_same ((show TdAll U1 [v] [c] from .cons r1 .nil).mono (same_upd (up_none g1.uh hl)))) ⟨c, p1, rfl⟩
theorem em_sortX (h : EvMP C te ρ p P1) (hd : ∀ d, P1 d → ∃ ds, d = .d (.list ds) ∧ SortOk ds) : EvMP C (tCB (rSortX K) (tCons te tNil)) ρ p (fun d => ∃ ds, P1 (.d (.list ds)) ∧ d = .d (.list (sortD ds))) := fun σ U H L S ho Q q =>
  h σ U H L S ho _ fun v d U1 H1 g1 ho1 r1 p1 => by
    obtain ⟨ds, rfl, so⟩ := hd d p1
    obtain ⟨x, vs, rfl, hx, t⟩ := Td.toLst r1
    refine ⟨x, vs, ds, rfl, .inl (g1.uh _ _ hx), t.dp g1.uh, so, fun r hr => ?_⟩
    exact q _ _ _ _ (g1.trans (Gr.new g1.uh hr).any) (ho1.step (Gr.new g1.uh hr) (List.not_mem_nil)) (show Rp C _ _ (.d (.list (sortD ds))) from Td.lst upd_same ((sort_td t).mono (same_upd (up_none g1.uh hr)))) ⟨ds, p1, rfl⟩
theorem em_drawn (hh : Ev C te ρ (.adr p)) : EvMP C (tCall spDrawn [] E (tCons te (tCons (tC (.int 4)) (tCons (tC (.int 4)) (tCons (tC (.int 9)) tNil))))) ρ p (fun d => ∃ n m ts, Drawn n m ts ∧ d = .d (.tuple [nI n, nI m, .list (ts.map pairD)])) := fun σ U H L S ho Q q =>
  hh σ U H L S _ fun v U1 H1 g1 r1 => by
    obtain rfl : v = .ref p := r1
    exact ⟨p, U1, rfl, g1.uh, ho.step g1 (by simp), fun n m ts v U2 H2 dr g2 h2 tv => q v (.d (.tuple [nI n, nI m, .list (ts.map pairD)])) U2 H2 (g1.any.trans g2) h2 tv ⟨n, m, ts, dr, rfl⟩⟩
theorem q_hand {ns : List Int} (L : Lo C U σ ρ) (S : Same U H) (hh : Ev C te ρ (.scr K ns)) (few : ns.length ≤ 90000) (k : ∀ p σ' U' H', Gr [] U H U' H' → HandOk U' H' p → Lo C U' σ' (ρ.set j (some (.adr p))) → tz D σ' H') : tSeq (tAsg (tCall (spHand K) [] E (tCons te tNil)) (gName j)) tz D σ H := by
  show te σ H _
  refine hh σ U H L S _ fun v U1 H1 g1 r1 => ?_
  obtain ⟨x, rfl, hx⟩ := r1
  exact ⟨x, U1, ns, rfl, g1.uh, hx, few, fun p U2 H2 g2 hp ho2 => k p _ U2 H2 (g1.trans g2) ho2 ((L.mono (g1.trans g2).uu).set (d := .adr p) (show Rp C U2 (.ref p) (.adr p) from rfl))⟩
theorem q_drawn (L : Lo C U σ ρ) (S : Same U H) (ho : HandOk U H p) (hh : Ev C te ρ (.adr p)) (kk : ∀ n m ts σ' U' H', Drawn n m ts → Gr [p] U H U' H' → HandOk U' H' p → Lo C U' σ' (((ρ.set j (some (iD n))).set l (some (iD m))).set k (some (.d (.list (ts.map pairD))))) → tz D σ' H') :
    tSeq (tAsg (tCall spDrawn [] E (tCons te (tCons (tC (.int 4)) (tCons (tC (.int 4)) (tCons (tC (.int 9)) tNil))))) (gTup K 3 (gCons (gName j) (gCons (gName l) (gCons (gName k) gNil))))) tz D σ H := by
  show tCall spDrawn [] E _ σ H _
  refine em_drawn hh σ U H L S ho _ fun v3 d3 U3 H3 g3 ho3 r3 pd => ?_
  obtain ⟨n, m, ts, dr, rfl⟩ := pd
  exact evg_trip σ U3 H3 v3 (L.mono g3.uu) g3.uh r3 _ fun σ3 L3 _ _ => kk n m ts σ3 U3 H3 dr g3 ho3 L3
/-- x = e, e told by a word while the hand is drawn from -/
theorem q_asgM {i : Nat} (L : Lo C U σ ρ) (S : Same U H) (ho : HandOk U H p) (h : EvMP C te ρ p P1) (k : ∀ d σ' U' H', P1 d → Gr [p] U H U' H' → HandOk U' H' p → Lo C U' σ' (ρ.set i (some d)) → tz D σ' H') : tSeq (tAsg te (gName i)) tz D σ H :=
  show te σ H _ from h σ U H L S ho _ fun v d U1 H1 g1 ho1 r1 p1 => k d _ U1 H1 p1 g1 ho1 ((L.mono g1.uu).set r1)
end
theorem loadCnt_asI (N : List Nat) (s f : Nat) : loadCnt N s f = loadCntI (asI N) s f := by
  unfold loadCnt loadCntI asI
  rw [List.length_map]
  refine congrArg List.sum (List.map_congr_left fun k hk => ?_)
  have hk := List.mem_range.mp hk
  congr 1
  rw [List.getD_eq_getElem?_getD, List.getD_eq_getElem?_getD, List.getElem?_map, List.getElem?_eq_getElem hk]
  rfl
def missR (m : Nat) (ts : List (Nat × Nat)) (a : Nat) : List (Nat × Nat) := ((List.range m).filter fun b => !decide ((a, b) ∈ ts)).map fun b => (a, b)
def missP (m : Nat) (ts : List (Nat × Nat)) (i : Nat) : List (Nat × Nat) := (List.range i).flatMap (missR m ts)
theorem missP_end (n m : Nat) (ts : List (Nat × Nat)) : missP m ts n = missF n m ts := rfl
theorem missP_succ (m : Nat) (ts : List (Nat × Nat)) (i : Nat) : missP m ts (i + 1) = missP m ts i ++ missR m ts i := by
  unfold missP
  rw [List.range_succ, List.flatMap_append]
  simp
theorem missR_len (m : Nat) (ts : List (Nat × Nat)) (a : Nat) : (missR m ts a).length ≤ m := by
  unfold missR
  rw [List.length_map]
  exact Nat.le_trans (List.length_filter_le _ _) (by rw [List.length_range]; exact Nat.le_refl _)
theorem missP_len (m : Nat) (ts : List (Nat × Nat)) : ∀ i, (missP m ts i).length ≤ i * m
  | 0 => Nat.zero_le _
  | i + 1 => by
    rw [missP_succ, List.length_append, Nat.succ_mul]
    exact Nat.add_le_add (missP_len m ts i) (missR_len m ts i)
theorem eq_nilD (ds : List PyData) : PyData.eqv (.list ds) (.list []) = decide (ds = []) := by cases ds <;> rfl
section
variable {P : Program} {w : World} {K : PySem.W.Frag} {mg : Str → Option Value} {base : Heap} {C : Addr}
abbrev s_law : Stmt := topS 61
abbrev N_law : List Str := ["_law_script", "_law_hand_here", "_law_n", "_law_m", "_law_ties", "_law_web_here", "_law_inward", "_law_size_here", "_law_due", "_law_missing", "_law_thing", "_law_more_here", "_law_told", "_law_club", "_law_k"]
theorem sc_law : FnScope N_law ["_law_script"] (defScope s_law) := ⟨rfl, rfl, rfl, by decide +kernel, rfl, by decide +kernel, by decide +kernel⟩
theorem ok_law {f : Addr} {fd : FuncData} (F : Fun K "law" "law" s_law f fd) (m_all : mg "all" = none) (m_len : mg "len" = none) (m_min : mg "min" = none) (m_range : mg "range" = none) (m_sorted : mg "sorted" = none) (F_Web : HasW P w K mg base C 3) (F__law_asked : Has P w K mg base "_law_asked" 9 ["_law_hand_here", "_law_web_here", "_law_n", "_law_m", "_law_inward"] [] (spAsked C)) (F__law_by_formula : Has P w K mg base "_law_by_formula" 2 ["_law_inward", "_law_free", "_law_size_here"] [] (prLForm.sp C)) (F__law_by_loads : Has P w K mg base "_law_by_loads" 3 ["_law_n", "_law_m", "_law_ties"] [] (prLBy.sp C)) (F__law_exact : Has P w K mg base "_law_exact" 3 ["_law_told", "_law_due"] [] (prExT.sp C)) (F__law_exactI : Has P w K mg base "_law_exact" 2 ["_law_told", "_law_due"] [] (prExI.sp C)) (F__law_hand : Has P w K mg base "_law_hand" 1 ["_law_script"] [] (spHand K)) (F__law_loads : Has P w K mg base "_law_loads" 2 ["_law_n", "_law_m", "_law_ties", "_law_many"] [] (prLLoads.sp C)) (F__law_take : Has P w K mg base "_law_take" 2 ["_law_hand_here", "_law_many"] [] spTake) (F__law_web : Has P w K mg base "_law_web" 4 ["_law_hand_here", "_law_things", "_law_clubs", "_law_most"] [] spDrawn) (F_inward_of : Has P w K mg base "inward_of" 7 ["web"] [] (prInwardOf.sp C)) (F_load_count : Has P w K mg base "load_count" 8 ["web", "many"] [] (prCount.sp C)) :
    FnOk P w K mg base CX0 10 f fd ["_law_script"] (spLaw K) := by
  refine F.ok sc_law (fun vs H Q E h => len_spLaw h) fun cdv A outer s H vs Q E hr h => ?_
  have nd := sc_law.nd
  refine ⟨_, (pss_cons (ps_set (i := 1) nd rfl (.inl rfl) (pe_fn F__law_hand (hr.mono (by decide)) (by rfl) (pa_cons (pv 0) pa_nil)))
  (pss_cons (ps_asg (pe_fn F__law_web (hr.mono (by decide)) (by rfl) (pa_cons (pv 1) (pa_cons pe_int (pa_cons pe_int (pa_cons pe_int pa_nil))))) (pg_tup rfl (pgs_cons (pg_name (i := 2) nd rfl (.inl rfl)) (pgs_cons (pg_name (i := 3) nd rfl (.inl rfl)) (pgs_cons (pg_name (i := 4) nd rfl (.inr rfl)) pgs_nil)))))
  (pss_cons (ps_set (i := 5) nd rfl (.inl rfl) (pe_web F_Web (hr.mono (by decide)) (by rfl) (pa_cons (pv 2) (pa_cons (pv 3) (pa_cons (pv 4) pa_nil)))))
  (pss_cons (ps_set (i := 6) nd rfl (.inr rfl) (pe_fn F__law_by_loads (hr.mono (by decide)) (by rfl) (pa_cons (pv 2) (pa_cons (pv 3) (pa_cons (pv 4) pa_nil)))))
  (pss_cons (ps_if (pt_not (pt_val (pe_fn F__law_asked (hr.mono (by decide)) (by rfl) (pa_cons (pv 1) (pa_cons (pv 5) (pa_cons (pv 2) (pa_cons (pv 3) (pa_cons (pv 6) pa_nil)))))))) (pss_one (ps_ret pe_bl)) pss_nil)
  (pss_cons (ps_set (i := 7) nd rfl (.inl rfl) (pe_callB (call_min2 rfl) (by rfl) m_min (by decide +kernel) (pa_cons (pv 2) (pa_cons (pv 3) pa_nil))))
  (pss_cons (ps_set (i := 8) nd rfl (.inl rfl) (pe_ifExp (PW.pt (pw_or (pt_cmpR op_le (pe_callB (len_K (K := K)) (by rfl) m_len (by decide +kernel) (pa_cons (pv 4) pa_nil)) pe_int (nomark _)) (pw_or1 (pt_cmpR op_lt (pv 7) pe_int (nomark _))))) (pe_callB (len_K (K := K)) (by rfl) m_len (by decide +kernel) (pa_cons (pe_ix (ix_listK (K := K)) (pe_fn F__law_loads (hr.mono (by decide)) (by rfl) (pa_cons (pv 2) (pa_cons (pv 3) (pa_cons (pv 4) (pa_cons (pv 7) pa_nil))))) (pv 7) (fun _ _ => rfl)) pa_nil)) (pe_fn F__law_by_formula (hr.mono (by decide)) (by rfl) (pa_cons (pv 6) (pa_cons (pe_op op_sub (pe_op op_add (pv 2) (pv 3)) pe_int) (pa_cons (pv 7) pa_nil))))))
  (pss_cons (ps_if (pt_not (pt_val (pe_fn F__law_exactI (hr.mono (by decide)) (by rfl) (pa_cons (pe_fn F_load_count (hr.mono (by decide)) (by rfl) (pa_cons (pv 5) (pa_cons (pv 7) pa_nil))) (pa_cons (pv 8) pa_nil))))) (pss_one (ps_ret pe_bl)) pss_nil)
  (pss_cons (ps_set (i := 9) nd rfl (.inl rfl) (pe_lst pa_nil))
  (pss_cons (ps_for PassesOwn.never rfl (pi_range1 (by rfl) m_range (pa_cons (pv 2) pa_nil)) (pg_name (i := 10) nd rfl (.inr rfl)) (pss_one (ps_set (i := 9) nd rfl (.inl rfl) (pe_op op_cat (pv 9) (pe_lc (own := [("_law_club", 13)]) (g := gName 13) rfl nd (pi_range1 (by rfl) m_range (pa_cons (pv 3) pa_nil)) (blkOk_by (own := [("_law_club", 13)]) (N := N_law) (sc := defScope s_law) (by decide +kernel)) (fun _ _ _ _ _ => (pg_name (i := 13) nd rfl (.inl rfl))) (fun _ _ _ _ _ => pts_one (pt_cmpR (notInD_K (K := K) (hu65 hr)) (pe_tup (pa_cons (pv 10) (pa_cons (pv 13) pa_nil))) (pv 4) rfl)) (fun _ _ _ _ _ => (pe_tup (pa_cons (pv 10) (pa_cons (pv 13) pa_nil)))))))))
  (pss_cons (ps_if (pt_cmpR (eqD_K (K := K) (hu64 hr)) (pv 9) (pe_lst pa_nil) (nomark _)) (pss_one (ps_ret pe_bl)) pss_nil)
  (pss_cons (ps_set (i := 4) nd rfl (.inr rfl) (pe_callB (call_sortX (K := K) (hu65 hr)) (by rfl) m_sorted (by decide +kernel) (pa_cons (pe_op op_cat (pv 4) (pe_lst (pa_cons (pe_ix (ix_listK (K := K)) (pv 9) (pe_fn F__law_take (hr.mono (by decide)) (by rfl) (pa_cons (pv 1) (pa_cons (pe_callB (len_K (K := K)) (by rfl) m_len (by decide +kernel) (pa_cons (pv 9) pa_nil)) pa_nil))) (fun _ _ => rfl)) pa_nil))) pa_nil)))
  (pss_cons (ps_set (i := 11) nd rfl (.inl rfl) (pe_fn F__law_by_loads (hr.mono (by decide)) (by rfl) (pa_cons (pv 2) (pa_cons (pv 3) (pa_cons (pv 4) pa_nil)))))
  (pss_cons (ps_set (i := 12) nd rfl (.inr rfl) (pe_fn F_inward_of (hr.mono (by decide)) (by rfl) (pa_cons (pe_web F_Web (hr.mono (by decide)) (by rfl) (pa_cons (pv 2) (pa_cons (pv 3) (pa_cons (pv 4) pa_nil)))) pa_nil)))
  (pss_cons (ps_if (pt_not (pt_val (pe_fn F__law_exact (hr.mono (by decide)) (by rfl) (pa_cons (pv 12) (pa_cons (pv 11) pa_nil))))) (pss_one (ps_ret pe_bl)) pss_nil)
  (pss_one (ps_ret (pe_and (pe_cmpR op_ge (pe_callB (len_K (K := K)) (by rfl) m_len (by decide +kernel) (pa_cons (pv 12) pa_nil)) (pe_callB (len_K (K := K)) (by rfl) m_len (by decide +kernel) (pa_cons (pv 6) pa_nil)) (nomark _)) (pe_one (pe_callB (all_K (K := K) rfl) (by rfl) m_all (by decide +kernel) (pa_cons (pe_lc (own := [("_law_k", 14)]) (g := gName 14) rfl nd (pi_range1 (by rfl) m_range (pa_cons (pe_callB (len_K (K := K)) (by rfl) m_len (by decide +kernel) (pa_cons (pv 6) pa_nil)) pa_nil)) (blkOk_by (own := [("_law_k", 14)]) (N := N_law) (sc := defScope s_law) (by decide +kernel)) (fun _ _ _ _ _ => (pg_name (i := 14) nd rfl (.inl rfl))) (fun _ _ _ _ _ => pts_nil) (fun _ _ _ _ _ => (pe_cmpR op_ge (pe_ix (ix_tupK (K := K)) (pv 12) (pv 14) (fun _ _ => rfl)) (pe_ix (ix_tupK (K := K)) (pv 6) (pv 14) (fun _ _ => rfl)) (nomark _)))) pa_nil))))))))))))))))))))), ?_⟩
  obtain ⟨p0, U, ns, rfl, all, S, hs, few, q⟩ := h
  have L : Lo C U (L2.start N_law [.ref p0]) ([some (.scr K ns)] ++ List.replicate (N_law.length - 1) none) := loc_start (ds := [.scr K ns]) (.cons ⟨p0, rfl, hs⟩ .nil) (by show 1 ≤ 15; decide)
  generalize L2.start N_law [.ref p0] = σ at L
  have L : Lo C U σ [some (.scr K ns), none, none, none, none, none, none, none, none, none, none, none, none, none, none] := L
  refine q_hand L S (ev_var rfl) few fun p σ2 U2 H2 g2 ho2 L2 => ?_
  refine q_drawn L2 g2.uh ho2 (ev_var rfl) fun n m ts σ3 U3 H3 dr g3 ho3 L3 => ?_
  obtain ⟨I, ok⟩ := all n m ts dr
  have n1 := dr.n1
  have n4 := dr.n4
  have m1 := dr.m1
  have m4 := dr.m4
  have few9 := dr.few
  have eI := ok.ask.back
  have fewI : I.length ≤ 4 := by
    rw [← eI]
    have := fromN_len (n + m - 1) (cnts n m ts)
    rw [cnts_len] at this
    omega
  refine q_asg L3 g3.uh ((ev_web (eva_cons (ev_var rfl) (eva_cons (ev_var rfl) (eva_cons (ev_var rfl) eva_nil))) ok.inn).to (congrArg (DV.web n m) ok.so)) fun σ4 U4 H4 g4 L4 => ?_
  refine q_asg L4 g4.uh ((c_lby (eva_cons (ev_var rfl) (eva_cons (ev_var rfl) (eva_cons (ev_var rfl) eva_nil))) n1 n4 m1 m4 dr.th dr.cl (by omega)).to (by rw [eI])) fun σ5 U5 H5 g5 L5 => ?_
  have L5 : Lo C U5 σ5 [some (.scr K ns), some (.adr p), some (iD n), some (iD m), some (.d (.list (ts.map pairD))), some (.web n m ts), some (.d (intsD I)), none, none, none, none, none, none, none, none] := L5
  have ho5 := (ho3.step g4 (by simp)).step g5 (by simp)
  refine q_notM L5 g5.uh ho5 (em_asked (eva_cons (ev_var rfl) (eva_cons (ev_var rfl) (eva_cons (ev_var rfl) (eva_cons (ev_var rfl) (eva_cons (ev_var rfl) eva_nil))))) ok.ask) fun U6 H6 g6 ho6 L6 => ?_
  refine q_asg L6 g6.uh (ev_minN (ev_var rfl) (ev_var rfl)) fun σ7 U7 H7 g7 L7 => ?_
  have ho7 := ho6.step g7 (by simp)
  refine q_asg L7 g7.uh (ev_if (d := iD (loadCntI I (min n m) (n + m - 2))) (evt_or (evt_test (ev_op (ev_call (eva_cons (ev_var rfl) eva_nil) rc_lenLM) ev_int (rv_B0 rfl))) fun _ => evt_test (ev_op (ev_var rfl) ev_int (rv_B0 rfl))) (fun hb => ?_) (fun hb => ?_)) fun σ8 U8 H8 g8 L8 => ?_
  · have hc : ts.length ≤ 7 ∨ min n m < 4 := by
      rcases Bool.or_eq_true_iff.mp hb with h | h
      · exact .inl (by have := of_decide_eq_true h; omega)
      · exact .inr (by have := of_decide_eq_true h; omega)
    refine (ev_callP (evp_op (P2 := fun d => ∃ ls : List Load, d = .d (LD ls) ∧ LoadsAre n m ts (min n m) ls) (c_lloads (min n m) (eva_cons (ev_var rfl) (eva_cons (ev_var rfl) (eva_cons (ev_var rfl) (eva_cons (ev_var rfl) eva_nil)))) n1 n4 m1 m4 dr.th dr.cl (by omega) (by omega)) (ev_var rfl) fun d ⟨lss, e, len, are⟩ => ?_) (fun d2 ⟨ls, e, are⟩ => ?_) : Ev C _ _ (iD (cnt n m ts (min n m) : Nat))).to (by rw [ok.due hc])
    · have hl : lss[min n m]? = some (lss.getD (min n m) []) := getD_at (by omega)
      subst e
      exact ⟨_, ⟨_, rfl, are _ _ hl⟩, rv_ixL (at_map hl)⟩
    · rw [e, ← are.cnt]
      exact rc_lenLM
  · exact c_lform I (n + m - 2) (min n m) (eva_cons (ev_var rfl) (eva_cons ((ev_op (ev_op (ev_var rfl) (ev_var rfl) (rv_I0 rfl)) ev_int (rv_I0 rfl)).to (b := iD (n + m - 2 : Nat)) (congrArg iD (by omega))) (eva_cons (ev_var rfl) eva_nil))) (by omega) (by omega) (by omega) ok.small
  have ho8 := ho7.step g8 (by simp)
  have ecnt : loadCnt (inwardN n m ts (List.range m)) (min n m) (n + m - 2) = loadCntI I (min n m) (n + m - 2) := by
    rw [← ok.ask.ord _ (List.Perm.refl _)]
    exact loadCnt_asI _ _ _
  refine q_skip L8 g8.uh ((evt_not (evt_B (c_exI _ _ (eva_cons (c_count (min n m) (eva_cons (ev_var rfl) (eva_cons (ev_var rfl) eva_nil)) (by omega) ok.ask.ok ok.ask.rows) (eva_cons (ev_var rfl) eva_nil))))).to (by rw [ecnt, decide_eq_true rfl]; rfl)) fun U9 H9 g9 L9 => ?_
  refine q_asg L9 g9.uh (evn_lst (ds := []) eva_nil (by simp)).ev fun σ10 U10 H10 g10 L10 => ?_
  have ho10 := (ho8.step g9 (by simp)).step g10 (by simp)
  have L10 : Lo C U10 σ10 [some (.scr K ns), some (.adr p), some (iD n), some (iD m), some (.d (.list (ts.map pairD))), some (.web n m ts), some (.d (intsD I)), some (iD (min n m : Nat)), some (iD (loadCntI I (min n m) (n + m - 2))), some (.d (.list ((missP m ts 0).map pairD))), none, none, none, none, none] := L10
  refine q_for (List.range n) (fun (j : Nat) => iD j) (fun i => [some (.scr K ns), some (.adr p), some (iD n), some (iD m), some (.d (.list (ts.map pairD))), some (.web n m ts), some (.d (intsD I)), some (iD (min n m : Nat)), some (iD (loadCntI I (min n m) (n + m - 2))), some (.d (.list ((missP m ts i).map pairD))), none, none, none, none, none]) (fun i U' H' => HandOk U' H' p) L10 g10.uh (evi_rngN (eva_cons (ev_var rfl) eva_nil) (by omega)) (.eq (.eq (.eq (.eq (.eq (.eq (.eq (.eq (.eq (.eq (.no (.no (.no (.no (.no .nil))))))))))))))) (fun _ _ g => ho10.step g (by simp)) ?_ ?_
  · intro i a Ub U11 H11 U12 H12 ea h11 _ sb g12
    obtain ⟨hi, rfl⟩ := rng_at ea
    have ml := missP_len m ts a
    have rl := missR_len m ts a
    have am : a * m ≤ 16 := Nat.mul_le_mul (by omega : a ≤ 4) m4
    refine ⟨_, _, evg_name, fun σ12 L12 => ?_⟩
    refine s_asg L12 g12.uh ((evn_cat (ev_var rfl) ((evn_lcIf (js := [13]) (List.range m) (fun (k : Nat) => iD k) (fun b => !decide ((a, b) ∈ ts)) (fun b => pairD (a, b)) (evi_rngN (eva_cons (ev_var rfl) eva_nil) (by omega)) (by rw [List.length_range]; omega) (by simp)
      (fun b hb => ⟨_, evg_name, evt_test (ev_op (ev_tup (ds := [nI a, nI b]) (eva_cons (ev_var rfl) (eva_cons (ev_var rfl) eva_nil)) (by simp)) (ev_var rfl) (rv_notInD (d := pairD (a, b)) rfl (shaped_pairs ts) (pair_notin ts (a, b)))), fun _ => ev_tup (ds := [nI a, nI b]) (eva_cons (ev_var rfl) (eva_cons (ev_var rfl) eva_nil)) (by simp)⟩)).ev.to (b := .d (.list ((missR m ts a).map pairD))) ?_) ?_).ev.to (b := .d (.list ((missP m ts (a + 1)).map pairD))) ?_) fun σ13 U13 H13 g13 L13 => ?_
    · unfold missR
      rw [List.map_map]
      rfl
    · rw [List.length_map, List.length_map]
      omega
    · rw [missP_succ, List.map_append]
    · exact nx_of (Nxt.of (M := []) sb g13 (L13.sub (.eq (.eq (.eq (.eq (.eq (.eq (.eq (.eq (.eq (.eq (.no (.no (.no (.no (.no .nil)))))))))))))))) ((h11.step g12 (by simp)).step g13 (by simp)))
  · intro U11 H11 σ11 L11 s1 s2 ho11
    rw [List.length_range, missP_end] at L11
    refine q_when L11 s2 (evt_test (ev_op (ev_var rfl) (evn_lst (ds := []) eva_nil (by simp)).ev (rv_eqD (shaped_pairs _) (shaped_pairs []) (eq_nilD _)))) (fun hb U12 H12 g12 L12 => s_ret L12 g12.uh ev_bl fun v U13 H13 g13 r13 => ?_) fun hb U12 H12 g12 L12 => ?_
    · cases Td.toBl r13
      exact q _
    have ne : missF n m ts ≠ [] := fun e => of_decide_eq_false hb (by rw [e]; rfl)
    have ml := missP_len m ts n
    rw [missP_end] at ml
    have nm : n * m ≤ 16 := Nat.mul_le_mul n4 m4
    have L12 : Lo C U12 σ11 [some (.scr K ns), some (.adr p), some (iD n), some (iD m), some (.d (.list (ts.map pairD))), some (.web n m ts), some (.d (intsD I)), some (iD (min n m : Nat)), some (iD (loadCntI I (min n m) (n + m - 2))), some (.d (.list ((missF n m ts).map pairD))), none, none, none, none, none] := L12
    refine q_asgM L12 g12.uh (ho11.step g12 (by simp)) (em_sortX (em_opR (P2 := fun d => ∃ t ∈ missF n m ts, d = .d (.list ((ts ++ [t]).map pairD))) (ev_var rfl) (em_lst1 (P1 := fun d => ∃ t ∈ missF n m ts, d = .d (pairD t)) (em_opR (ev_var rfl) (em_take (n := (missF n m ts).length) (ev_var rfl) (ev_call (eva_cons (ev_var rfl) eva_nil) rc_lenLM) (List.length_pos_iff.mpr ne) (by omega)) fun d ⟨z, hz, e⟩ => ?_) fun d ⟨t, _, e⟩ => ⟨_, e⟩) fun d ⟨c, ⟨t, ht, e1⟩, e2⟩ => ?_) fun d ⟨t, ht, e⟩ => ⟨_, e, so_pairs _⟩) fun d σ13 U13 H13 ⟨ds, ⟨t, ht, e1⟩, e2⟩ g13 ho13 L13 => ?_
    · subst e
      have hz2 := getD_at (d := (0, 0)) hz
      exact ⟨_, ⟨_, List.mem_of_getElem? hz2, rfl⟩, rv_ixL (at_map hz2)⟩
    · subst e2
      refine ⟨_, ⟨t, ht, rfl⟩, ?_⟩
      cases e1
      rw [List.map_append]
      exact rv_cat (by rw [List.length_map]; show ts.length + 1 ≤ 100000; omega)
    · cases e1
      subst e2
      rw [sortD_pairs] at L13
      obtain ⟨t1, t2, t3⟩ := mem_missF ht
      have G := ok.grow t t1 t2 t3
      generalize sortP (ts ++ [t]) = us at L13 G
      have L13 : Lo C U13 σ13 [some (.scr K ns), some (.adr p), some (iD n), some (iD m), some (.d (.list (us.map pairD))), some (.web n m ts), some (.d (intsD I)), some (iD (min n m : Nat)), some (iD (loadCntI I (min n m) (n + m - 2))), some (.d (.list ((missF n m ts).map pairD))), none, none, none, none, none] := L13
      have gok : WebOk n m us := ⟨n1, n4, m1, m4, by have := G.few; omega, G.inn.th, G.inn.cl⟩
      refine q_asg L13 g13.uh (c_lby (eva_cons (ev_var rfl) (eva_cons (ev_var rfl) (eva_cons (ev_var rfl) eva_nil))) n1 n4 m1 m4 G.inn.th G.inn.cl G.few) fun σ14 U14 H14 g14 L14 => ?_
      refine q_asg L14 g14.uh ((c_inwardOf (eva_cons ((ev_web (eva_cons (ev_var rfl) (eva_cons (ev_var rfl) (eva_cons (ev_var rfl) eva_nil))) G.inn).to (congrArg (DV.web n m) G.so)) eva_nil) gok G.rows).to (nT_I G.told)) fun σ15 U15 H15 g15 L15 => ?_
      have T1 := G.len
      have T2 := G.le
      have T3 : (fromN (n + m - 1) (cnts n m us)).length ≤ 4 := by
        have := fromN_len (n + m - 1) (cnts n m us)
        rw [cnts_len] at this
        omega
      generalize fromN (n + m - 1) (cnts n m us) = J at L15 T1 T2 T3
      have L15 : Lo C U15 σ15 [some (.scr K ns), some (.adr p), some (iD n), some (iD m), some (.d (.list (us.map pairD))), some (.web n m ts), some (.d (intsD I)), some (iD (min n m : Nat)), some (iD (loadCntI I (min n m) (n + m - 2))), some (.d (.list ((missF n m ts).map pairD))), none, some (.d (intsD J)), some (.d (intsD J)), none, none] := L15
      refine q_skip L15 g15.uh ((evt_not (evt_B (c_exT J J (eva_cons (ev_var rfl) (eva_cons (ev_var rfl) eva_nil)) (by omega)))).to (by rw [decide_eq_true rfl]; rfl)) fun U16 H16 g16 L16 => ?_
      refine s_ret L16 g16.uh (ev_andV (p := true) (d := bD true) (ev_op (ev_call (eva_cons (ev_var rfl) eva_nil) (rc_lenTM (f := PyData.int) (l := J))) (ev_call (eva_cons (ev_var rfl) eva_nil) (rc_lenTM (f := PyData.int) (l := I))) (rv_B0 (congrArg V.bl (decide_eq_true (by omega))))) (fun _ => ev_call (eva_cons
        (evn_lc (js := [14]) (List.range I.length) (fun (k : Nat) => iD k) (fun k => .bool true) (evi_rngN (eva_cons (ev_call (eva_cons (ev_var rfl) eva_nil) (rc_lenTM (f := PyData.int) (l := I))) eva_nil) (by omega)) (by rw [List.length_range]; omega) (by simp)
          (fun k hk => ⟨_, evg_name, ?_⟩)).ev eva_nil) ?_) (fun h => nomatch h)) fun v U17 H17 g17 r17 => ?_
      · have hk := List.mem_range.mp hk
        exact ev_op (ev_op (ev_var rfl) (ev_var rfl) (rv_ixT (at_map (f := PyData.int) (getD_at (d := 0) (by omega : k < J.length))))) (ev_op (ev_var rfl) (ev_var rfl) (rv_ixT (at_map (f := PyData.int) (getD_at (d := 0) hk)))) (rv_B0 (congrArg V.bl (decide_eq_true (T2 k hk))))
      · have h := rc_all (C := C) (K := K) (bs := (List.range I.length).map fun _ => true)
        rw [List.map_map] at h
        have e : ((List.range I.length).map fun _ => true).all id = true := List.all_eq_true.mpr fun x hx => by
          obtain ⟨_, _, rfl⟩ := List.mem_map.mp hx
          rfl
        rw [e] at h
        exact h
      · cases Td.toBl r17
        exact q _
end
end Kx
end
section
set_option linter.all false
/-! A web drawn is one piece, so is it turned over, so is it with a tie more. -/
namespace Kx
theorem ConnOn.sub {ts us : List (Nat × Nat)} {A B : List Nat} (h : ConnOn ts A B) (s : ∀ t ∈ ts, t ∈ us) : ConnOn us A B := fun φ ψ e => h φ ψ fun t ht => e t (s t ht)
theorem mem_flipT {ts : List (Nat × Nat)} {t : Nat × Nat} : t ∈ flipT ts ↔ (t.2, t.1) ∈ ts := by
  unfold flipT
  rw [List.mem_map]
  constructor
  · rintro ⟨a, ha, rfl⟩
    exact ha
  · exact fun h => ⟨_, h, rfl⟩
theorem ConnOn.flip {n m : Nat} {ts : List (Nat × Nat)} (h : ConnOn ts (List.range n) (List.range m)) (m1 : 1 ≤ m) : ConnOn (flipT ts) (List.range m) (List.range n) := fun φ ψ e => by
  obtain ⟨h1, h2⟩ := h ψ φ fun t ht => (e (t.2, t.1) (mem_flipT.mpr ht)).symm
  have h0 := h2 0 (List.mem_range.mpr m1)
  exact ⟨fun i hi => (h2 i hi).trans h0.symm, fun j hj => (h1 j hj).trans h0.symm⟩
theorem markStep_get (n : Nat) (marks : List Nat) (t : Nat × Nat) {i : Nat} (hi : i < marks.length) : (markStep n marks t).getD i 0 = if marks.getD i 0 = marks.getD (n + t.2) 0 then marks.getD t.1 0 else marks.getD i 0 := by
  unfold markStep
  rw [List.getD_eq_getElem?_getD, List.getElem?_map, List.getElem?_eq_getElem hi, List.getD_eq_getElem?_getD (i := i), List.getElem?_eq_getElem hi]
  rfl
theorem marks_keep (n : Nat) {i j : Nat} : ∀ (ts : List (Nat × Nat)) (marks : List Nat), i < marks.length → j < marks.length → marks.getD i 0 = marks.getD j 0 → (ts.foldl (markStep n) marks).getD i 0 = (ts.foldl (markStep n) marks).getD j 0
  | [], _, _, _, e => e
  | t :: ts, marks, hi, hj, e => by
    rw [List.foldl_cons]
    refine marks_keep n ts _ (by rw [markStep_len]; exact hi) (by rw [markStep_len]; exact hj) ?_
    rw [markStep_get n marks t hi, markStep_get n marks t hj, e]
theorem marks_tie (n : Nat) : ∀ (ts : List (Nat × Nat)) (marks : List Nat), (∀ t ∈ ts, t.1 < marks.length ∧ n + t.2 < marks.length) → ∀ t ∈ ts, (ts.foldl (markStep n) marks).getD t.1 0 = (ts.foldl (markStep n) marks).getD (n + t.2) 0
  | [], _, _, t, ht => by cases ht
  | s :: ts, marks, h, t, ht => by
    rw [List.foldl_cons]
    rcases List.mem_cons.mp ht with rfl | ht
    · obtain ⟨h1, h2⟩ := h t List.mem_cons_self
      refine marks_keep n ts _ (by rw [markStep_len]; exact h1) (by rw [markStep_len]; exact h2) ?_
      rw [markStep_get n marks t h1, markStep_get n marks t h2, if_pos rfl]
      split <;> rfl
    · exact marks_tie n ts _ (fun x hx => by rw [markStep_len]; exact h x (List.mem_cons_of_mem _ hx)) t ht
theorem firstMet_const {val : Nat → Int} {z : Int} : ∀ k, (∀ i, i < k + 1 → val i = z) → PyProof.Rows.firstMet val (k + 1) = [z]
  | 0, h => by
    rw [PyProof.Rows.firstMet_succ, PyProof.Rows.firstMet_zero, h 0 (by omega)]
    rfl
  | k + 1, h => by
    rw [PyProof.Rows.firstMet_succ, firstMet_const k fun i hi => h i (by omega), h (k + 1) (by omega)]
    unfold PyProof.Rows.step_dedup
    simp
theorem dist_one {n m : Nat} {ts : List (Nat × Nat)} (n1 : 1 ≤ n) (th : ∀ t ∈ ts, t.1 < n) (cl : ∀ t ∈ ts, t.2 < m) (h : ConnOn ts (List.range n) (List.range m)) : dist (asI (marksF n m ts)) = 1 := by
  have len : (marksF n m ts).length = n + m := by
    unfold marksF
    rw [marks_len, List.length_range]
  obtain ⟨h1, h2⟩ := h (fun i => (marksF n m ts).getD i 0) (fun j => (marksF n m ts).getD (n + j) 0) fun t ht => marks_tie n ts _ (fun t ht => by
    rw [List.length_range]
    have := th t ht
    have := cl t ht
    omega) t ht
  have key : ∀ i, i < n + m → (marksF n m ts).getD i 0 = (marksF n m ts).getD 0 0 := fun i hi => by
    by_cases hn : i < n
    · exact h1 i (List.mem_range.mpr hn)
    · have := h2 (i - n) (List.mem_range.mpr (by omega))
      have e : n + (i - n) = i := by omega
      rw [e] at this
      exact this
  have la : (asI (marksF n m ts)).length = (n + m - 1) + 1 := by
    unfold asI
    rw [List.length_map, len]
    omega
  unfold dist
  rw [la, firstMet_const (z := ((marksF n m ts).getD 0 0 : Nat)) (n + m - 1) fun i hi => ?_]
  · rfl
  · show (asI (marksF n m ts)).getD i 0 = _
    unfold asI
    have hi2 : i < (marksF n m ts).length := by omega
    rw [← key i (by omega), List.getD_eq_getElem?_getD, List.getElem?_map, List.getElem?_eq_getElem hi2, List.getD_eq_getElem?_getD, List.getElem?_eq_getElem hi2]
    rfl
end Kx
end
section
set_option linter.all false
/-! Loads under renaming of the clubs, under turning over, by another list of the ties. -/
namespace Kx
theorem nodup_map_on {α β : Type} {f : α → β} : ∀ {l : List α}, l.Nodup → (∀ x ∈ l, ∀ y ∈ l, f x = f y → x = y) → (l.map f).Nodup
  | [], _, _ => List.nodup_nil
  | a :: l, h, inj => by
    obtain ⟨h1, h2⟩ := List.nodup_cons.mp h
    rw [List.map_cons, List.nodup_cons]
    refine ⟨fun hm => ?_, nodup_map_on h2 fun x hx y hy => inj x (List.mem_cons_of_mem _ hx) y (List.mem_cons_of_mem _ hy)⟩
    obtain ⟨b, hb, e⟩ := List.mem_map.mp hm
    exact h1 (inj b (List.mem_cons_of_mem _ hb) a List.mem_cons_self e ▸ hb)
theorem loadsL_sub {n m : Nat} {ts us : List (Nat × Nat)} (s : ∀ t ∈ ts, t ∈ us) : ∀ k l, l ∈ loadsL n m ts k → l ∈ loadsL n m us k
  | 0, l, h => h
  | k + 1, l, h => by
    obtain ⟨l0, h0, h1⟩ := List.mem_flatMap.mp h
    obtain ⟨t, ht, rfl⟩ := List.mem_map.mp h1
    exact List.mem_flatMap.mpr ⟨l0, loadsL_sub s k l0 h0, List.mem_map.mpr ⟨t, s t ht, rfl⟩⟩
theorem cnt_same {n m : Nat} {ts us : List (Nat × Nat)} (h : ∀ t, t ∈ ts ↔ t ∈ us) (k : Nat) : cnt n m ts k = cnt n m us k := by
  have a : LoadsAre n m us k (dd (loadsL n m ts k)) := ⟨nodup_dd _, fun l => mem_dd.trans ⟨loadsL_sub (fun t => (h t).mp) k l, loadsL_sub (fun t => (h t).mpr) k l⟩⟩
  exact a.cnt
/-- a map of loads that goes along with the ties -/
theorem cnt_map {n m n' m' : Nat} {ts : List (Nat × Nat)} {R : Nat × Nat → Nat × Nat} {Φ : Load → Load} (z : Φ (zeroL n m) = zeroL n' m') (st : ∀ k, ∀ l ∈ loadsL n m ts k, ∀ t ∈ ts, oneMore (Φ l) (R t) = Φ (oneMore l t))
    (inj : ∀ k, ∀ l ∈ loadsL n m ts k, ∀ l' ∈ loadsL n m ts k, Φ l = Φ l' → l = l') (k : Nat) : cnt n' m' (ts.map R) k = cnt n m ts k := by
  have key : ∀ k l, l ∈ loadsL n' m' (ts.map R) k ↔ ∃ l0 ∈ loadsL n m ts k, Φ l0 = l := by
    intro k
    induction k with
    | zero =>
      intro l
      show l ∈ [zeroL n' m'] ↔ ∃ l0 ∈ [zeroL n m], Φ l0 = l
      simp only [List.mem_singleton, exists_eq_left, z]
      exact eq_comm
    | succ k ih =>
      intro l
      show l ∈ (loadsL n' m' (ts.map R) k).flatMap _ ↔ ∃ l0 ∈ (loadsL n m ts k).flatMap _, Φ l0 = l
      simp only [List.mem_flatMap, List.mem_map]
      constructor
      · rintro ⟨a, ha, _, ⟨t, ht, rfl⟩, rfl⟩
        obtain ⟨l0, h0, rfl⟩ := (ih a).mp ha
        exact ⟨_, ⟨l0, h0, t, ht, rfl⟩, (st k l0 h0 t ht).symm⟩
      · rintro ⟨_, ⟨l0, h0, t, ht, rfl⟩, rfl⟩
        exact ⟨Φ l0, (ih _).mpr ⟨l0, h0, rfl⟩, _, ⟨t, ht, rfl⟩, st k l0 h0 t ht⟩
  have a : LoadsAre n' m' (ts.map R) k ((dd (loadsL n m ts k)).map Φ) := by
    refine ⟨nodup_map_on (nodup_dd _) fun x hx y hy => inj k x (mem_dd.mp hx) y (mem_dd.mp hy), fun l => ?_⟩
    rw [key, List.mem_map]
    exact ⟨fun ⟨x, hx, e⟩ => ⟨x, mem_dd.mp hx, e⟩, fun ⟨x, hx, e⟩ => ⟨x, mem_dd.mpr hx, e⟩⟩
  have := a.cnt
  rw [List.length_map] at this
  exact this.symm
theorem cnt_flip (n m : Nat) (ts : List (Nat × Nat)) (k : Nat) : cnt m n (flipT ts) k = cnt n m ts k :=
  cnt_map (R := fun t => (t.2, t.1)) (Φ := fun l => (l.2, l.1)) rfl (fun _ _ _ _ _ => rfl) (fun _ l _ l' _ e => Prod.ext (congrArg Prod.snd e) (congrArg Prod.fst e)) k
/-- the clubs renamed by an order -/
def relC (o : List Nat) (ts : List (Nat × Nat)) : List (Nat × Nat) := ts.map fun t => (t.1, o.idxOf t.2)
/-- a row read by an order -/
def byO (o b : List Nat) : List Nat := o.map fun c => b.getD c 0
theorem perm_range_get {m : Nat} {o : List Nat} (h : o.Perm (List.range m)) : o.length = m ∧ o.Nodup ∧ ∀ c, c ∈ o ↔ c < m :=
  ⟨by rw [h.length_eq, List.length_range], h.nodup_iff.mpr List.nodup_range, fun c => by rw [h.mem_iff, List.mem_range]⟩
theorem byO_get {m : Nat} {o : List Nat} (h : o.Perm (List.range m)) (b : List Nat) {c : Nat} (hc : c < m) : (byO o b).getD (o.idxOf c) 0 = b.getD c 0 := by
  obtain ⟨ol, nd, mm⟩ := perm_range_get h
  have hi : o.idxOf c < o.length := List.idxOf_lt_length_of_mem ((mm c).mpr hc)
  have e1 : o[o.idxOf c] = c := List.getElem_idxOf hi
  unfold byO
  rw [List.getD_eq_getElem?_getD, List.getElem?_map, List.getElem?_eq_getElem hi, e1]
  rfl
theorem byO_set {m : Nat} {o b : List Nat} (h : o.Perm (List.range m)) (hb : b.length = m) {c : Nat} (hc : c < m) (v : Nat) : (byO o b).set (o.idxOf c) v = byO o (b.set c v) := by
  obtain ⟨ol, nd, mm⟩ := perm_range_get h
  have hi : o.idxOf c < o.length := List.idxOf_lt_length_of_mem ((mm c).mpr hc)
  have e1 : o[o.idxOf c] = c := List.getElem_idxOf hi
  unfold byO
  apply List.ext_getElem
  · simp
  · intro j h1 h2
    have hj : j < o.length := by simpa using h2
    rw [List.getElem_set, List.getElem_map, List.getElem_map]
    by_cases e : o.idxOf c = j
    · subst e
      rw [if_pos rfl, e1, List.getD_eq_getElem?_getD, List.getElem?_set_self (by omega)]
      rfl
    · rw [if_neg e]
      have ne : c ≠ o[j] := fun z => e (by rw [z]; exact List.Nodup.idxOf_getElem nd j hj)
      rw [List.getD_eq_getElem?_getD, List.getD_eq_getElem?_getD, List.getElem?_set_ne ne]
theorem byO_inc {m : Nat} {o b : List Nat} (h : o.Perm (List.range m)) (hb : b.length = m) {c : Nat} (hc : c < m) : incN (byO o b) (o.idxOf c) = byO o (incN b c) := by
  unfold incN
  rw [byO_get h b hc, byO_set h hb hc]
theorem byO_inj {m : Nat} {o b b' : List Nat} (h : o.Perm (List.range m)) (hb : b.length = m) (hb' : b'.length = m) (e : byO o b = byO o b') : b = b' := by
  obtain ⟨ol, nd, mm⟩ := perm_range_get h
  apply List.ext_getElem
  · omega
  · intro c h1 h2
    have hc : c ∈ o := (mm c).mpr (by omega)
    have := List.map_eq_map_iff.mp e c hc
    rw [List.getD_eq_getElem?_getD, List.getElem?_eq_getElem h1, List.getD_eq_getElem?_getD, List.getElem?_eq_getElem h2] at this
    exact this
theorem cnt_relC {n m : Nat} {o : List Nat} {ts : List (Nat × Nat)} (h : o.Perm (List.range m)) (cl : ∀ t ∈ ts, t.2 < m) (k : Nat) : cnt n m (relC o ts) k = cnt n m ts k :=
  cnt_map (R := fun t => (t.1, o.idxOf t.2)) (Φ := fun l => (l.1, byO o l.2)) (by
    obtain ⟨ol, nd, mm⟩ := perm_range_get h
    unfold zeroL byO
    congr 1
    apply List.ext_getElem
    · rw [List.length_map, List.length_replicate, ol]
    · intro j h1 h2
      rw [List.getElem_map, List.getElem_replicate, List.getD_eq_getElem?_getD, List.getElem?_replicate]
      split <;> rfl) (fun k l hl t ht => by
    obtain ⟨d1, d2⟩ := loadsL_dim n m ts k l hl
    unfold oneMore
    rw [byO_inc h d2 (cl t ht)]) (fun k l hl l' hl' e => by
    obtain ⟨d1, d2⟩ := loadsL_dim n m ts k l hl
    obtain ⟨d1', d2'⟩ := loadsL_dim n m ts k l' hl'
    exact Prod.ext (Prod.mk.inj e).1 (byO_inj h d2 d2' (Prod.mk.inj e).2)) k
end Kx
end
section
set_option linter.all false
/-! The rows that show, by what they keep to. -/
namespace Kx
def subsL (r : List Nat) : List Nat := r.foldl sumsW [0]
theorem subsL_snoc (r : List Nat) (k : Nat) : subsL (r ++ [k]) = sumsW (subsL r) k := by
  unfold subsL
  rw [List.foldl_append]
  rfl
theorem snoc_ind {P : List Nat → Prop} (h0 : P []) (h1 : ∀ r k, P r → P (r ++ [k])) : ∀ r, P r := fun r => by
  have h : ∀ l : List Nat, P l.reverse := fun l => by
    induction l with
    | nil => exact h0
    | cons a l ih =>
      rw [List.reverse_cons]
      exact h1 _ _ ih
  have := h r.reverse
  rw [List.reverse_reverse] at this
  exact this
theorem subsL_len : ∀ r, (subsL r).length = 2 ^ r.length := snoc_ind rfl fun r k ih => by
  rw [subsL_snoc, sumsW_len, ih, List.length_append, List.length_singleton, Nat.pow_succ, Nat.mul_comm]
theorem sumsW_lo {s : List Nat} {k S : Nat} (h : S < s.length) : (sumsW s k).getD S 0 = s.getD S 0 := by
  unfold sumsW
  rw [List.getD_eq_getElem?_getD, List.getElem?_append_left h, List.getD_eq_getElem?_getD]
theorem sumsW_hi {s : List Nat} {k S : Nat} (h : S < s.length) : (sumsW s k).getD (s.length + S) 0 = s.getD S 0 + k := by
  unfold sumsW
  rw [List.getD_eq_getElem?_getD, List.getElem?_append_right (by omega), Nat.add_sub_cancel_left, List.getElem?_map, List.getElem?_eq_getElem h, List.getD_eq_getElem?_getD, List.getElem?_eq_getElem h]
  rfl
theorem lastD_sums {s : List Nat} {k : Nat} (h : 0 < s.length) : lastD (sumsW s k) = lastD s + k := by
  unfold lastD
  have e : (sumsW s k).length - 1 = s.length + (s.length - 1) := by
    rw [sumsW_len]
    omega
  rw [e, sumsW_hi (by omega)]
theorem two_pos (i : Nat) : 0 < 2 ^ i := Nat.pow_pos (by decide)
theorem lastD_subs : ∀ r, lastD (subsL r) = r.sum := snoc_ind rfl fun r k ih => by
  rw [subsL_snoc, lastD_sums (by rw [subsL_len]; exact two_pos _), ih]
  simp
theorem within_iff {s lims : List Nat} {k : Nat} : within (sumsW s k) lims s.length = true ↔ ∀ S, S < s.length → s.getD S 0 + k < lims.getD (s.length + S) 0 := by
  unfold within
  rw [List.all_eq_true, sumsW_len]
  constructor
  · intro h S hS
    have := of_decide_eq_true (h S (List.mem_range.mpr (by omega)))
    rw [sumsW_hi hS] at this
    exact this
  · intro h S hS
    have hS := List.mem_range.mp hS
    have := h S (by omega)
    rw [sumsW_hi (by omega)]
    exact decide_eq_true this
def Keeps (lims r : List Nat) : Prop := ∀ S, 1 ≤ S → S < 2 ^ r.length → (subsL r).getD S 0 < lims.getD S 0
theorem keeps_snoc {lims r : List Nat} {k : Nat} : Keeps lims (r ++ [k]) ↔ Keeps lims r ∧ ∀ S, S < 2 ^ r.length → (subsL r).getD S 0 + k < lims.getD (2 ^ r.length + S) 0 := by
  unfold Keeps
  have hp := two_pos r.length
  have len := subsL_len r
  rw [subsL_snoc, List.length_append, List.length_singleton, Nat.pow_succ]
  constructor
  · intro h
    refine ⟨fun S h1 h2 => ?_, fun S h2 => ?_⟩
    · have := h S h1 (by omega)
      rw [sumsW_lo (by omega)] at this
      exact this
    · have := h (2 ^ r.length + S) (by omega) (by omega)
      rw [← len, sumsW_hi (by omega), len] at this
      exact this
  · rintro ⟨h1, h2⟩ S h3 h4
    by_cases e : S < 2 ^ r.length
    · rw [sumsW_lo (by omega)]
      exact h1 S h3 e
    · have := h2 (S - 2 ^ r.length) (by omega)
      have e2 : S = (subsL r).length + (S - 2 ^ r.length) := by omega
      rw [e2, sumsW_hi (by omega), len]
      exact this
theorem mem_rowsAt {lims : List Nat} {most : Nat} : ∀ (i : Nat) (p : Row), p ∈ rowsAt lims most i ↔ p.2 = subsL p.1 ∧ p.1.length = i ∧ Keeps lims p.1 ∧ p.1.sum ≤ most
  | 0, p => by
    show p ∈ [(([] : List Nat), [0])] ↔ _
    rw [List.mem_singleton]
    constructor
    · rintro rfl
      exact ⟨rfl, rfl, fun S h1 h2 => absurd h2 (by show ¬ S < 1; omega), Nat.zero_le _⟩
    · rintro ⟨h1, h2, _⟩
      obtain ⟨a, b⟩ := p
      have : a = [] := List.length_eq_zero_iff.mp h2
      subst this
      exact Prod.ext rfl h1
  | i + 1, p => by
    show p ∈ (rowsAt lims most i).flatMap (longerOne lims most) ↔ _
    rw [List.mem_flatMap]
    constructor
    · rintro ⟨q, hq, hp⟩
      obtain ⟨q1, q2, q3, q4⟩ := (mem_rowsAt i q).mp hq
      obtain ⟨k, hk, rfl⟩ := List.mem_map.mp hp
      obtain ⟨k1, k2⟩ := List.mem_filter.mp hk
      have k1 := List.mem_range.mp k1
      rw [q1, lastD_subs] at k1
      rw [q1, within_iff, subsL_len] at k2
      refine ⟨?_, ?_, keeps_snoc.mpr ⟨q3, k2⟩, ?_⟩
      · show sumsW q.2 k = subsL (q.1 ++ [k])
        rw [subsL_snoc, q1]
      · show (q.1 ++ [k]).length = i + 1
        rw [List.length_append, List.length_singleton, q2]
      · show (q.1 ++ [k]).sum ≤ most
        simp
        omega
    · rintro ⟨h1, h2, h3, h4⟩
      obtain ⟨a, b⟩ := p
      have h1 : b = subsL a := h1
      obtain ⟨r, k, rfl⟩ : ∃ r k, a = r ++ [k] := ⟨_, _, (List.dropLast_concat_getLast (by intro z; subst z; cases h2)).symm⟩
      have h2 : (r ++ [k]).length = i + 1 := h2
      have h4 : (r ++ [k]).sum ≤ most := h4
      have hl : r.length = i := by simpa using h2
      have hs : r.sum + k ≤ most := by simpa using h4
      obtain ⟨k1, k2⟩ := keeps_snoc.mp h3
      refine ⟨(r, subsL r), (mem_rowsAt i _).mpr ⟨rfl, hl, k1, by show r.sum ≤ most; omega⟩, List.mem_map.mpr ⟨k, List.mem_filter.mpr ⟨List.mem_range.mpr ?_, ?_⟩, ?_⟩⟩
      · show k < most + 1 - lastD (subsL r)
        rw [lastD_subs]
        omega
      · show within (sumsW (subsL r) k) lims (subsL r).length = true
        rw [within_iff, subsL_len]
        exact k2
      · show (r ++ [k], sumsW (subsL r) k) = (r ++ [k], b)
        rw [h1, subsL_snoc]
theorem rowsAt_nodup {lims : List Nat} {most : Nat} : ∀ i, (rowsAt lims most i).Nodup
  | 0 => List.nodup_cons.mpr ⟨by simp, List.nodup_nil⟩
  | i + 1 => by
    show ((rowsAt lims most i).flatMap (longerOne lims most)).Nodup
    unfold List.Nodup
    rw [List.pairwise_flatMap]
    refine ⟨fun p _ => ?_, (rowsAt_nodup i).imp_of_mem fun {p q} hp hq ne x hx y hy e => ?_⟩
    · unfold longerOne
      refine List.Pairwise.map _ (fun a b (ne : a ≠ b) e => ne ?_) (List.Pairwise.filter _ List.nodup_range)
      have := (Prod.mk.inj e).1
      simpa using this
    · obtain ⟨k, _, rfl⟩ := List.mem_map.mp hx
      obtain ⟨l, _, rfl⟩ := List.mem_map.mp hy
      have e1 : p.1 ++ [k] = q.1 ++ [l] := (Prod.mk.inj e).1
      have e2 : p.1 = q.1 := List.append_inj_left' e1 rfl
      exact ne (Prod.ext e2 (by rw [((mem_rowsAt i p).mp hp).1, ((mem_rowsAt i q).mp hq).1, e2]))
theorem mem_shownL {n m : Nat} {ts : List (Nat × Nat)} {r : List Nat} : r ∈ shownRows n m ts ↔ r.length = m ∧ r.sum = n - 1 ∧ Keeps (heldC n m ts) r := by
  unfold shownRows
  rw [List.mem_map]
  constructor
  · rintro ⟨p, hp, rfl⟩
    obtain ⟨h1, h2⟩ := List.mem_filter.mp hp
    obtain ⟨a, b, c, d⟩ := (mem_rowsAt m p).mp h1
    have h2 := of_decide_eq_true h2
    rw [a, lastD_subs] at h2
    exact ⟨b, h2, c⟩
  · rintro ⟨a, b, c⟩
    refine ⟨(r, subsL r), List.mem_filter.mpr ⟨(mem_rowsAt m _).mpr ⟨rfl, a, c, by show r.sum ≤ n - 1; omega⟩, decide_eq_true ?_⟩, rfl⟩
    show lastD (subsL r) = n - 1
    rw [lastD_subs, b]
theorem shownRows_nodup (n m : Nat) (ts : List (Nat × Nat)) : (shownRows n m ts).Nodup := by
  unfold shownRows
  refine List.Pairwise.map _ (fun _ _ h => h) ?_
  refine ((rowsAt_nodup m).filter _).imp_of_mem fun {p q} hp hq ne e => ne ?_
  exact Prod.ext e (by rw [((mem_rowsAt m p).mp (List.mem_filter.mp hp).1).1, ((mem_rowsAt m q).mp (List.mem_filter.mp hq).1).1, e])
end Kx
end
section
set_option linter.all false
/-! The rows that show, by sets of clubs. -/
namespace Kx
def wsum (r : List Nat) (S : Nat → Bool) : Nat := ((List.range r.length).map fun c => if S c then r.getD c 0 else 0).sum
def hcount (n m : Nat) (ts : List (Nat × Nat)) (S : Nat → Bool) : Nat := ((List.range n).filter fun i => (List.range m).any fun c => S c && decide ((i, c) ∈ ts)).length
theorem wsum_snoc (r : List Nat) (k : Nat) (S : Nat → Bool) : wsum (r ++ [k]) S = wsum r S + if S r.length then k else 0 := by
  unfold wsum
  rw [List.length_append, List.length_singleton, List.range_succ, List.map_append, List.sum_append]
  congr 1
  · refine congrArg List.sum (List.map_congr_left fun c hc => ?_)
    have hc := List.mem_range.mp hc
    rw [List.getD_eq_getElem?_getD, List.getElem?_append_left hc, List.getD_eq_getElem?_getD]
  · simp
theorem wsum_congr {r : List Nat} {S T : Nat → Bool} (h : ∀ c, c < r.length → S c = T c) : wsum r S = wsum r T := by
  unfold wsum
  refine congrArg List.sum (List.map_congr_left fun c hc => ?_)
  rw [h c (List.mem_range.mp hc)]
theorem subs_wsum : ∀ r S, S < 2 ^ r.length → (subsL r).getD S 0 = wsum r S.testBit := by
  refine snoc_ind ?_ fun r k ih => ?_
  · intro S hS
    have : S = 0 := by
      have : S < 1 := hS
      omega
    subst this
    rfl
  · intro S hS
    rw [List.length_append, List.length_singleton, Nat.pow_succ] at hS
    rw [subsL_snoc, wsum_snoc]
    by_cases h : S < 2 ^ r.length
    · rw [sumsW_lo (by rw [subsL_len]; exact h), ih S h, Nat.testBit_lt_two_pow h]
      simp
    · obtain ⟨T, rfl⟩ : ∃ T, S = 2 ^ r.length + T := ⟨S - 2 ^ r.length, by omega⟩
      have hT : T < 2 ^ r.length := by omega
      have e : (sumsW (subsL r) k).getD (2 ^ r.length + T) 0 = (subsL r).getD T 0 + k := by
        rw [← subsL_len r, sumsW_hi (by rw [subsL_len]; exact hT)]
      rw [e, ih T hT, Nat.testBit_two_pow_add_eq, Nat.testBit_lt_two_pow hT]
      rw [wsum_congr (S := (2 ^ r.length + T).testBit) (T := T.testBit) fun c hc => Nat.testBit_two_pow_add_gt hc T]
      rfl
theorem bitsOf_bit {i : Nat} : ∀ (l : List Nat) (b : Nat), (l.foldl (fun b t => b ||| 2 ^ t) b).testBit i = (b.testBit i || decide (i ∈ l))
  | [], b => by simp
  | t :: l, b => by
    rw [List.foldl_cons, bitsOf_bit l, Nat.testBit_or, Nat.testBit_two_pow]
    rw [Bool.or_assoc]
    congr 1
    by_cases e : t = i
    · subst e
      simp
    · have : ¬ i = t := fun z => e z.symm
      simp [e, this]
theorem bitsOf_mem {i c : Nat} {ts : List (Nat × Nat)} : (bitsOf (thingsOf ts c)).testBit i = decide ((i, c) ∈ ts) := by
  unfold bitsOf
  rw [bitsOf_bit]
  simp only [Nat.zero_testBit, Bool.false_or]
  refine decide_eq_decide.mpr ?_
  unfold thingsOf
  rw [List.mem_map]
  constructor
  · rintro ⟨t, ht, e⟩
    obtain ⟨h1, h2⟩ := List.mem_filter.mp ht
    have h2 := of_decide_eq_true h2
    obtain ⟨a, b⟩ := t
    have e : a = i := e
    have h2 : b = c := h2
    subst e h2
    exact h1
  · exact fun h => ⟨(i, c), List.mem_filter.mpr ⟨h, decide_eq_true rfl⟩, rfl⟩
theorem any_range_succ {m : Nat} {p : Nat → Bool} : (List.range (m + 1)).any p = ((List.range m).any p || p m) := by
  rw [List.range_succ, List.any_append]
  simp
theorem any_congr {α : Type} {l : List α} {p q : α → Bool} (h : ∀ x ∈ l, p x = q x) : l.any p = l.any q := by
  induction l with
  | nil => rfl
  | cons a l ih => rw [List.any_cons, List.any_cons, h a List.mem_cons_self, ih fun x hx => h x (List.mem_cons_of_mem _ hx)]
theorem heldM_bit {i : Nat} {ts : List (Nat × Nat)} : ∀ (m S : Nat), S < 2 ^ m → ((heldM ts m).getD S 0).testBit i = (List.range m).any fun c => S.testBit c && decide ((i, c) ∈ ts)
  | 0, S, h => by
    have : S = 0 := by
      have : S < 1 := h
      omega
    subst this
    show (0 : Nat).testBit i = false
    exact Nat.zero_testBit i
  | m + 1, S, h => by
    rw [Nat.pow_succ] at h
    have len := heldM_len ts m
    show ((heldM ts m ++ (heldM ts m).map (bitsOf (thingsOf ts m) ||| ·)).getD S 0).testBit i = _
    rw [any_range_succ]
    by_cases hS : S < 2 ^ m
    · rw [List.getD_eq_getElem?_getD, List.getElem?_append_left (by omega), ← List.getD_eq_getElem?_getD, heldM_bit m S hS, Nat.testBit_lt_two_pow hS]
      simp
    · obtain ⟨T, rfl⟩ : ∃ T, S = 2 ^ m + T := ⟨S - 2 ^ m, by omega⟩
      have hT : T < 2 ^ m := by omega
      rw [List.getD_eq_getElem?_getD, List.getElem?_append_right (by omega), len, Nat.add_sub_cancel_left, List.getElem?_map]
      have hT2 : T < (heldM ts m).length := by omega
      rw [List.getElem?_eq_getElem hT2]
      show (bitsOf (thingsOf ts m) ||| (heldM ts m)[T]).testBit i = _
      have e : (heldM ts m)[T] = (heldM ts m).getD T 0 := by
        rw [List.getD_eq_getElem?_getD, List.getElem?_eq_getElem hT2]
        rfl
      rw [Nat.testBit_or, bitsOf_mem, e, heldM_bit m T hT, Nat.testBit_two_pow_add_eq, Nat.testBit_lt_two_pow hT, Bool.or_comm]
      congr 1
      · refine any_congr fun c hc => ?_
        rw [Nat.testBit_two_pow_add_gt (List.mem_range.mp hc)]
theorem tcN_get : ∀ n x, x < 2 ^ n → (tcN n).getD x 0 = ((List.range n).filter x.testBit).length
  | 0, x, h => by
    have : x = 0 := by
      have : x < 1 := h
      omega
    subst this
    rfl
  | n + 1, x, h => by
    rw [Nat.pow_succ] at h
    have len := tcN_len n
    show (tcN n ++ (tcN n).map (· + 1)).getD x 0 = _
    rw [List.range_succ, List.filter_append, List.length_append]
    by_cases hx : x < 2 ^ n
    · rw [List.getD_eq_getElem?_getD, List.getElem?_append_left (by omega), ← List.getD_eq_getElem?_getD, tcN_get n x hx]
      simp [Nat.testBit_lt_two_pow hx]
    · obtain ⟨y, rfl⟩ : ∃ y, x = 2 ^ n + y := ⟨x - 2 ^ n, by omega⟩
      have hy : y < 2 ^ n := by omega
      rw [List.getD_eq_getElem?_getD, List.getElem?_append_right (by omega), len, Nat.add_sub_cancel_left, List.getElem?_map]
      have hy2 : y < (tcN n).length := by omega
      rw [List.getElem?_eq_getElem hy2]
      show (tcN n)[y] + 1 = _
      have e : (tcN n)[y] = (tcN n).getD y 0 := by
        rw [List.getD_eq_getElem?_getD, List.getElem?_eq_getElem hy2]
        rfl
      rw [e, tcN_get n y hy]
      have e2 : (List.range n).filter (2 ^ n + y).testBit = (List.range n).filter y.testBit := List.filter_congr fun c hc => Nat.testBit_two_pow_add_gt (List.mem_range.mp hc) y
      rw [e2]
      simp [Nat.testBit_two_pow_add_eq, Nat.testBit_lt_two_pow hy]
theorem heldC_get {n m : Nat} {ts : List (Nat × Nat)} (th : ∀ t ∈ ts, t.1 < n) {S : Nat} (h : S < 2 ^ m) : (heldC n m ts).getD S 0 = hcount n m ts S.testBit := by
  have hl : S < (heldM ts m).length := by
    rw [heldM_len]
    exact h
  have e : (heldM ts m)[S] = (heldM ts m).getD S 0 := by
    rw [List.getD_eq_getElem?_getD, List.getElem?_eq_getElem hl]
    rfl
  unfold heldC
  rw [List.getD_eq_getElem?_getD, List.getElem?_map, List.getElem?_eq_getElem hl]
  show (tcN n).getD (heldM ts m)[S] 0 = _
  rw [tcN_get n _ (heldM_lt th m _ (List.getElem_mem hl)), e]
  unfold hcount
  congr 1
  exact List.filter_congr fun i _ => heldM_bit m S h
/-- a set of clubs as a mask -/
def maskP (S : Nat → Bool) : Nat → Nat
  | 0 => 0
  | m + 1 => maskP S m + if S m then 2 ^ m else 0
theorem maskP_lt (S : Nat → Bool) : ∀ m, maskP S m < 2 ^ m
  | 0 => Nat.one_pos
  | m + 1 => by
    have := maskP_lt S m
    unfold maskP
    rw [Nat.pow_succ]
    split <;> omega
theorem maskP_bit (S : Nat → Bool) : ∀ m c, c < m → (maskP S m).testBit c = S c
  | m + 1, c, h => by
    have lt := maskP_lt S m
    unfold maskP
    by_cases e : c = m
    · subst e
      split
      · rename_i hs
        rw [Nat.add_comm, Nat.testBit_two_pow_add_eq, Nat.testBit_lt_two_pow lt, hs]
        rfl
      · rename_i hs
        rw [Nat.add_zero, Nat.testBit_lt_two_pow lt]
        simpa using hs
    · have hc : c < m := by omega
      split
      · rw [Nat.add_comm, Nat.testBit_two_pow_add_gt hc, maskP_bit S m c hc]
      · rw [Nat.add_zero, maskP_bit S m c hc]
theorem hcount_congr {n m : Nat} {ts : List (Nat × Nat)} {S T : Nat → Bool} (h : ∀ c, c < m → S c = T c) : hcount n m ts S = hcount n m ts T := by
  unfold hcount
  congr 1
  exact List.filter_congr fun i _ => any_congr fun c hc => by rw [h c (List.mem_range.mp hc)]
theorem mem_shown {n m : Nat} {ts : List (Nat × Nat)} (th : ∀ t ∈ ts, t.1 < n) {r : List Nat} : r ∈ shownRows n m ts ↔ r.length = m ∧ r.sum = n - 1 ∧ ∀ S : Nat → Bool, (∃ c, c < m ∧ S c = true) → wsum r S < hcount n m ts S := by
  rw [mem_shownL]
  constructor
  · rintro ⟨rfl, b, k⟩
    refine ⟨rfl, b, fun S ⟨c, hc, hs⟩ => ?_⟩
    have lt := maskP_lt S r.length
    have := k (maskP S r.length) (by
      have hb := maskP_bit S r.length c hc
      rw [hs] at hb
      cases e : maskP S r.length with
      | zero => rw [e, Nat.zero_testBit] at hb; cases hb
      | succ z => omega) lt
    rw [subs_wsum r _ lt, heldC_get th lt, wsum_congr (T := S) fun c hc => maskP_bit S _ c hc, hcount_congr (T := S) fun c hc => maskP_bit S _ c hc] at this
    exact this
  · rintro ⟨rfl, b, k⟩
    refine ⟨rfl, b, fun S h1 h2 => ?_⟩
    rw [subs_wsum r S h2, heldC_get th h2]
    refine k S.testBit ?_
    obtain ⟨c, hc⟩ := Nat.exists_testBit_of_ne_zero (x := S) (by omega)
    refine ⟨c, ?_, hc⟩
    have := Nat.ge_two_pow_of_testBit hc
    exact (Nat.pow_lt_pow_iff_right (by decide : 1 < 2)).mp (Nat.lt_of_le_of_lt this h2)
end Kx
end
section
set_option linter.all false
/-! Inward numbers by any order are the own-order numbers of the web with the clubs renamed. -/
namespace Kx
/-- one handed from g to t -/
def handN (r : List Nat) (g t : Nat) : List Nat := incN (r.set g (r.getD g 0 - 1)) t
theorem asI_get {r : List Nat} {i : Nat} : (asI r).getD i 0 = (r.getD i 0 : Nat) := by
  unfold asI
  rw [List.getD_eq_getElem?_getD, List.getElem?_map, List.getD_eq_getElem?_getD]
  cases r[i]? <;> rfl
theorem asI_set (r : List Nat) (i v : Nat) : asI (r.set i v) = (asI r).set i (v : Int) := by
  unfold asI
  rw [List.map_set]
theorem asI_inj' : ∀ {a b : List Nat}, asI a = asI b → a = b
  | [], [], _ => rfl
  | [], _ :: _, h => by cases h
  | _ :: _, [], h => by cases h
  | x :: a, y :: b, h => by
    have h1 : (x : Int) = y := (List.cons.inj h).1
    have h2 : asI a = asI b := (List.cons.inj h).2
    rw [asI_inj' h2]
    congr 1
    omega
theorem handI_asI {r : List Nat} {g t : Nat} (h : 0 < r.getD g 0) : handI (asI r) g t = asI (handN r g t) := by
  unfold handI handN incN
  have e : (asI r).getD g 0 - 1 = ((r.getD g 0 - 1 : Nat) : Int) := by
    rw [asI_get]
    omega
  rw [e, ← asI_set, asI_get, asI_set (r.set g _)]
  rfl
/-- handing within the rows -/
theorem hand_mem {R : List (List Nat)} {r : List Nat} {g t : Nat} (hg : g < r.length) (ne : g ≠ t) : handI (asI r) g t ∈ R.map asI ↔ 0 < r.getD g 0 ∧ handN r g t ∈ R := by
  constructor
  · intro h
    obtain ⟨s, hs, e⟩ := List.mem_map.mp h
    have hp : 0 < r.getD g 0 := by
      have e2 : (asI s).getD g 0 = (handI (asI r) g t).getD g 0 := by rw [e]
      have hl : g < (asI r).length := by
        unfold asI
        rw [List.length_map]
        exact hg
      rw [asI_get] at e2
      unfold handI at e2
      rw [List.getD_eq_getElem?_getD (l := (((asI r).set g _).set t _)), List.getElem?_set_ne (Ne.symm ne), List.getElem?_set_self hl, asI_get] at e2
      have e2 : ((s.getD g 0 : Nat) : Int) = ((r.getD g 0 : Nat) : Int) - 1 := e2
      omega
    refine ⟨hp, ?_⟩
    rw [handI_asI hp] at e
    rw [← asI_inj' e]
    exact hs
  · rintro ⟨hp, hm⟩
    rw [handI_asI hp]
    exact List.mem_map.mpr ⟨_, hm, rfl⟩
theorem byO_len {o r : List Nat} : (byO o r).length = o.length := List.length_map ..
theorem byO_hand {m : Nat} {o r : List Nat} (h : o.Perm (List.range m)) (hr : r.length = m) {c d : Nat} (hc : c < m) (hd : d < m) : handN (byO o r) (o.idxOf c) (o.idxOf d) = byO o (handN r c d) := by
  unfold handN
  rw [byO_get h r hc, byO_set h hr hc, byO_inc h (by rw [List.length_set, hr]) hd]
theorem o_range (o : List Nat) : (List.range o.length).map (fun j => o.getD j 0) = o := by
  apply List.ext_getElem
  · simp
  · intro j h1 h2
    rw [List.getElem_map, List.getElem_range, List.getD_eq_getElem?_getD, List.getElem?_eq_getElem h2]
    rfl
theorem o_at {m : Nat} {o : List Nat} (h : o.Perm (List.range m)) {j : Nat} (hj : j < m) : o.getD j 0 < m ∧ o.idxOf (o.getD j 0) = j := by
  obtain ⟨ol, nd, mm⟩ := perm_range_get h
  have hj2 : j < o.length := by omega
  have e : o.getD j 0 = o[j] := by
    rw [List.getD_eq_getElem?_getD, List.getElem?_eq_getElem hj2]
    rfl
  rw [e]
  exact ⟨(mm _).mp (List.getElem_mem hj2), List.Nodup.idxOf_getElem nd j hj2⟩
theorem o_idx {m : Nat} {o : List Nat} (h : o.Perm (List.range m)) {c : Nat} (hc : c < m) : o.idxOf c < m ∧ o.getD (o.idxOf c) 0 = c := by
  obtain ⟨ol, nd, mm⟩ := perm_range_get h
  have hi : o.idxOf c < o.length := List.idxOf_lt_length_of_mem ((mm c).mpr hc)
  refine ⟨by omega, ?_⟩
  rw [List.getD_eq_getElem?_getD, List.getElem?_eq_getElem hi]
  exact List.getElem_idxOf hi
theorem byO_sum {m : Nat} {o r : List Nat} (h : o.Perm (List.range m)) (hr : r.length = m) {S S' : Nat → Bool} (hS : ∀ c, c < m → S' (o.idxOf c) = S c) : wsum (byO o r) S' = wsum r S := by
  obtain ⟨ol, nd, mm⟩ := perm_range_get h
  unfold wsum
  rw [byO_len, ol, hr]
  have e1 : (List.range m).map (fun j => if S' j then (byO o r).getD j 0 else 0) = o.map fun c => if S c then r.getD c 0 else 0 := by
    conv => rhs; rw [← o_range o, ol, List.map_map]
    refine List.map_congr_left fun j hj => ?_
    obtain ⟨a, b⟩ := o_at h (List.mem_range.mp hj)
    show _ = if S (o.getD j 0) then r.getD (o.getD j 0) 0 else 0
    rw [← hS _ a, ← byO_get h r a, b]
  rw [e1]
  exact (h.map _).sum_nat
theorem sum_wsum (r : List Nat) : r.sum = wsum r fun _ => true := by
  unfold wsum
  congr 1
  conv => lhs; rw [← o_range r]
  rfl
theorem mem_relC {m : Nat} {o : List Nat} {ts : List (Nat × Nat)} (h : o.Perm (List.range m)) (cl : ∀ t ∈ ts, t.2 < m) {i c : Nat} (hc : c < m) : (i, o.idxOf c) ∈ relC o ts ↔ (i, c) ∈ ts := by
  unfold relC
  rw [List.mem_map]
  constructor
  · rintro ⟨t, ht, e⟩
    obtain ⟨e1, e2⟩ := Prod.mk.inj e
    have e3 : t.2 = c := by rw [← (o_idx h (cl t ht)).2, e2, (o_idx h hc).2]
    have : t = (i, c) := Prod.ext e1 e3
    exact this ▸ ht
  · exact fun ht => ⟨_, ht, rfl⟩
theorem any_iff_of {l l' : List Nat} {p p' : Nat → Bool} (a : ∀ x ∈ l, p x = true → ∃ y ∈ l', p' y = true) (b : ∀ y ∈ l', p' y = true → ∃ x ∈ l, p x = true) : l.any p = l'.any p' := by
  rw [Bool.eq_iff_iff, List.any_eq_true, List.any_eq_true]
  exact ⟨fun ⟨x, hx, e⟩ => a x hx e, fun ⟨y, hy, e⟩ => b y hy e⟩
theorem hcount_relC {n m : Nat} {o : List Nat} {ts : List (Nat × Nat)} (h : o.Perm (List.range m)) (cl : ∀ t ∈ ts, t.2 < m) {S S' : Nat → Bool} (hS : ∀ c, c < m → S' (o.idxOf c) = S c) : hcount n m (relC o ts) S' = hcount n m ts S := by
  unfold hcount
  congr 1
  refine List.filter_congr fun i _ => any_iff_of (fun j hj e => ?_) fun c hc e => ?_
  · obtain ⟨a, b⟩ := o_at h (List.mem_range.mp hj)
    obtain ⟨e1, e2⟩ := Bool.and_eq_true_iff.mp e
    refine ⟨o.getD j 0, List.mem_range.mpr a, Bool.and_eq_true_iff.mpr ⟨?_, decide_eq_true ?_⟩⟩
    · rw [← hS _ a, b, e1]
    · rw [← mem_relC h cl a, b]
      exact of_decide_eq_true e2
  · have hc := List.mem_range.mp hc
    obtain ⟨e1, e2⟩ := Bool.and_eq_true_iff.mp e
    refine ⟨o.idxOf c, List.mem_range.mpr (o_idx h hc).1, Bool.and_eq_true_iff.mpr ⟨?_, decide_eq_true ?_⟩⟩
    · rw [hS c hc, e1]
    · exact (mem_relC h cl hc).mpr (of_decide_eq_true e2)
theorem shown_byO {n m : Nat} {o : List Nat} {ts : List (Nat × Nat)} (h : o.Perm (List.range m)) (th : ∀ t ∈ ts, t.1 < n) (cl : ∀ t ∈ ts, t.2 < m) {r : List Nat} (hr : r.length = m) : byO o r ∈ shownRows n m (relC o ts) ↔ r ∈ shownRows n m ts := by
  obtain ⟨ol, nd, mm⟩ := perm_range_get h
  have th' : ∀ t ∈ relC o ts, t.1 < n := fun t ht => by
    obtain ⟨s, hs, rfl⟩ := List.mem_map.mp ht
    exact th s hs
  rw [mem_shown th', mem_shown th, byO_len, ol, sum_wsum, sum_wsum r, byO_sum h hr (S := fun _ => true) (S' := fun _ => true) fun _ _ => rfl]
  refine ⟨fun ⟨_, b, k⟩ => ⟨hr, b, fun S ⟨c, hc, hs⟩ => ?_⟩, fun ⟨_, b, k⟩ => ⟨rfl, b, fun S' ⟨j, hj, hs⟩ => ?_⟩⟩
  · have hS : ∀ c, c < m → (fun j => S (o.getD j 0)) (o.idxOf c) = S c := fun c hc => by
      show S (o.getD (o.idxOf c) 0) = S c
      rw [(o_idx h hc).2]
    have := k (fun j => S (o.getD j 0)) ⟨o.idxOf c, (o_idx h hc).1, (hS c hc).trans hs⟩
    rw [byO_sum h hr hS, hcount_relC h cl hS] at this
    exact this
  · have hS : ∀ c, c < m → S' (o.idxOf c) = (fun c => S' (o.idxOf c)) c := fun _ _ => rfl
    rw [byO_sum h hr hS, hcount_relC h cl hS]
    obtain ⟨a, b⟩ := o_at h hj
    exact k _ ⟨o.getD j 0, a, by show S' (o.idxOf (o.getD j 0)) = true; rw [b, hs]⟩
theorem byO_onto {m : Nat} {o r' : List Nat} (h : o.Perm (List.range m)) (hr : r'.length = m) : ∃ r, r.length = m ∧ byO o r = r' := by
  obtain ⟨ol, nd, mm⟩ := perm_range_get h
  refine ⟨(List.range m).map fun c => r'.getD (o.idxOf c) 0, by simp, ?_⟩
  apply List.ext_getElem
  · rw [byO_len, ol, hr]
  · intro j h1 h2
    have hj : j < m := by omega
    obtain ⟨a, b⟩ := o_at h hj
    have e : o.getD j 0 = o[j]'(by omega) := by
      rw [List.getD_eq_getElem?_getD, List.getElem?_eq_getElem (by omega)]
      rfl
    have e3 : (byO o ((List.range m).map fun c => r'.getD (o.idxOf c) 0))[j] = ((List.range m).map fun c => r'.getD (o.idxOf c) 0).getD (o[j]'(by omega)) 0 := by
      unfold byO
      exact List.getElem_map _
    rw [e3, ← e, List.getD_eq_getElem?_getD, List.getElem?_map, List.getElem?_range a]
    show r'.getD (o.idxOf (o.getD j 0)) 0 = _
    rw [b, List.getD_eq_getElem?_getD, List.getElem?_eq_getElem h2]
    rfl
theorem shown_perm {n m : Nat} {o : List Nat} {ts : List (Nat × Nat)} (h : o.Perm (List.range m)) (th : ∀ t ∈ ts, t.1 < n) (cl : ∀ t ∈ ts, t.2 < m) : (shownRows n m (relC o ts)).Perm ((shownRows n m ts).map (byO o)) := by
  refine (List.perm_ext_iff_of_nodup (shownRows_nodup _ _ _) (nodup_map_on (shownRows_nodup _ _ _) fun x hx y hy => byO_inj h (mem_shownL.mp hx).1 (mem_shownL.mp hy).1)).mpr fun r' => ?_
  constructor
  · intro hr
    obtain ⟨r, hl, rfl⟩ := byO_onto h (mem_shownL.mp hr).1
    exact List.mem_map.mpr ⟨r, (shown_byO h th cl hl).mp hr, rfl⟩
  · intro hr
    obtain ⟨r, hm, rfl⟩ := List.mem_map.mp hr
    exact (shown_byO h th cl (mem_shownL.mp hm).1).mpr hm
theorem numsF_perm {a b : List Nat} (h : a.Perm b) : numsF a = numsF b := by
  unfold numsF
  have e : a.foldr max 0 = b.foldr max 0 := by
    induction h with
    | nil => rfl
    | cons x _ ih => rw [List.foldr_cons, List.foldr_cons, ih]
    | swap x y l =>
      rw [List.foldr_cons, List.foldr_cons, List.foldr_cons, List.foldr_cons]
      omega
    | trans _ _ ih1 ih2 => rw [ih1, ih2]
  rw [e]
  exact List.map_congr_left fun k _ => h.count_eq k
theorem busy_len (rows : List (List Int)) (row : List Int) (o : List Nat) : (busyF rows row o).length = ((List.range o.length).filter (busyAt rows row o)).length := List.length_map ..
theorem inward_byO {n m : Nat} {o : List Nat} {ts : List (Nat × Nat)} (h : o.Perm (List.range m)) (th : ∀ t ∈ ts, t.1 < n) (cl : ∀ t ∈ ts, t.2 < m) : inwardN n m ts o = inwardN n m (relC o ts) (List.range m) := by
  obtain ⟨ol, nd, mm⟩ := perm_range_get h
  unfold inwardN
  refine (numsF_perm ?_).symm
  refine ((shown_perm h th cl).map _).trans ?_
  rw [List.map_map]
  have e : (shownRows n m ts).map ((fun r => (busyF ((shownRows n m (relC o ts)).map asI) (asI r) (List.range m)).length) ∘ byO o) = (shownRows n m ts).map fun r => (busyF ((shownRows n m ts).map asI) (asI r) o).length := by
    refine List.map_congr_left fun r hr => ?_
    have hl : r.length = m := (mem_shownL.mp hr).1
    show (busyF _ (asI (byO o r)) (List.range m)).length = _
    rw [busy_len, busy_len, List.length_range, ol]
    congr 1
    refine List.filter_congr fun j hj => ?_
    have hj := List.mem_range.mp hj
    obtain ⟨a1, a2⟩ := o_at h hj
    unfold busyAt
    have one : ∀ c, c < m → c ≠ o.getD j 0 → (handI (asI (byO o r)) ((List.range m).getD j 0) (o.idxOf c) ∈ (shownRows n m (relC o ts)).map asI ↔ handI (asI r) (o.getD j 0) c ∈ (shownRows n m ts).map asI) := fun c hc ne => by
      have e1 : (List.range m).getD j 0 = j := by
        rw [List.getD_eq_getElem?_getD, List.getElem?_range hj]
        rfl
      have ne2 : j ≠ o.idxOf c := fun z => ne (by rw [z, (o_idx h hc).2])
      rw [e1, hand_mem (by rw [byO_len, ol]; exact hj) ne2, hand_mem (by rw [hl]; exact a1) (Ne.symm ne)]
      have e2 := byO_get h r a1
      have e3 := byO_hand h hl a1 hc
      rw [a2] at e2 e3
      rw [e2, e3, shown_byO h th cl]
      unfold handN incN
      rw [List.length_set, List.length_set, hl]
    have ne_of : ∀ k, k < j → o.getD k 0 ≠ o.getD j 0 := fun k hk e => by
      have := (o_at h (show k < m by omega)).2
      rw [e, a2] at this
      omega
    refine any_iff_of (fun k hk e => ?_) fun c hc e => ?_
    · rw [List.take_range] at hk
      have hk := List.mem_range.mp hk
      have hkj : k < j := by omega
      obtain ⟨b1, b2⟩ := o_at h (show k < m by omega)
      refine ⟨o.getD k 0, ?_, ?_⟩
      · rw [List.mem_take_iff_getElem]
        refine ⟨k, by omega, ?_⟩
        rw [List.getD_eq_getElem?_getD, List.getElem?_eq_getElem (by omega)]
        rfl
      · have := of_decide_eq_true e
        rw [← b2, one _ b1 (ne_of k hkj)] at this
        exact decide_eq_true this
    · obtain ⟨k, hk, rfl⟩ := List.mem_take_iff_getElem.mp hc
      have hkj : k < j := by omega
      have ek : o[k] = o.getD k 0 := by
        rw [List.getD_eq_getElem?_getD, List.getElem?_eq_getElem (by omega)]
        rfl
      obtain ⟨b1, b2⟩ := o_at h (show k < m by omega)
      refine ⟨k, by rw [List.take_range]; exact List.mem_range.mpr (by omega), ?_⟩
      have := of_decide_eq_true e
      rw [ek, ← one _ b1 (ne_of k hkj), b2] at this
      exact decide_eq_true this
  rw [e]
end Kx
end
section
set_option linter.all false
/-! The rows that show, reckoned in one number. -/
namespace Kx
def comps : Nat → Nat → List (List Nat)
  | k, 0 => if k = 0 then [[]] else []
  | k, m + 1 => (List.range (k + 1)).flatMap fun i => (comps (k - i) m).map (i :: ·)
theorem mem_comps : ∀ {m k : Nat} {b : List Nat}, b ∈ comps k m ↔ b.length = m ∧ b.sum = k
  | 0, k, b => by
    unfold comps
    by_cases e : k = 0
    · rw [if_pos e, List.mem_singleton]
      constructor
      · rintro rfl
        exact ⟨rfl, e.symm⟩
      · exact fun h => List.length_eq_zero_iff.mp h.1
    · rw [if_neg e]
      refine ⟨fun h => (List.not_mem_nil h).elim, fun ⟨h1, h2⟩ => ?_⟩
      rw [List.length_eq_zero_iff.mp h1] at h2
      exact (e h2.symm).elim
  | m + 1, k, b => by
    unfold comps
    rw [List.mem_flatMap]
    constructor
    · rintro ⟨i, hi, h⟩
      obtain ⟨c, hc, rfl⟩ := List.mem_map.mp h
      have hi := List.mem_range.mp hi
      obtain ⟨h1, h2⟩ := mem_comps.mp hc
      exact ⟨by rw [List.length_cons, h1], by rw [List.sum_cons, h2]; omega⟩
    · rintro ⟨h1, h2⟩
      cases b with
      | nil => cases h1
      | cons i c =>
        rw [List.sum_cons] at h2
        rw [List.length_cons] at h1
        exact ⟨i, List.mem_range.mpr (by omega), List.mem_map.mpr ⟨c, mem_comps.mpr ⟨by omega, by omega⟩, rfl⟩⟩
theorem comps_nodup : ∀ {m k : Nat}, (comps k m).Nodup
  | 0, k => by
    unfold comps
    split
    · exact List.nodup_cons.mpr ⟨List.not_mem_nil, List.nodup_nil⟩
    · exact List.nodup_nil
  | m + 1, k => by
    unfold comps List.Nodup
    rw [List.pairwise_flatMap]
    refine ⟨fun i _ => List.Pairwise.map _ (fun a b (ne : a ≠ b) e => ne (List.cons.inj e).2) comps_nodup, List.nodup_range.imp fun {i j} ne x hx y hy e => ?_⟩
    obtain ⟨a, _, rfl⟩ := List.mem_map.mp hx
    obtain ⟨b, _, rfl⟩ := List.mem_map.mp hy
    exact ne (List.cons.inj e).1
def enc16 : List Nat → Nat
  | [] => 0
  | x :: xs => Nat.add x (Nat.mul 16 (enc16 xs))
def heldK (M : List Nat) (S : Nat) : Nat := M.foldr (fun u r => cond (Nat.beq (Nat.land u S) 0) r (Nat.succ r)) 0
def limE (M : List Nat) : List Nat → Nat
  | [] => 0
  | S :: r => Nat.add (Nat.add (heldK M S) 7) (Nat.mul 16 (limE M r))
def limCode (M Ss : List Nat) : Nat := Nat.add 8 (Nat.mul 16 (limE M Ss))
def guardK (m : Nat) : Nat := enc16 ((List.range (2 ^ m)).map fun _ => 8)
def shownB (G L r : Nat) : Bool := Nat.beq (Nat.land (Nat.sub L r) G) G
theorem and16 {a A B : Nat} (ha : a < 16) : Nat.land (a + 16 * A) (8 + 16 * B) = Nat.land a 8 + 16 * Nat.land A B := by
  show (a + 16 * A) &&& (8 + 16 * B) = (a &&& 8) + 16 * (A &&& B)
  have h8 : (8 : Nat) < 2 ^ 4 := by decide
  have ha : a < 2 ^ 4 := ha
  have l : (a &&& 8) < 2 ^ 4 := Nat.and_lt_two_pow a h8
  have e1 : a + 16 * A = 2 ^ 4 * A + a := by omega
  have e2 : 8 + 16 * B = 2 ^ 4 * B + 8 := by omega
  have e3 : (a &&& 8) + 16 * (A &&& B) = 2 ^ 4 * (A &&& B) + (a &&& 8) := by omega
  rw [e1, e2, e3]
  apply Nat.eq_of_testBit_eq
  intro i
  rw [Nat.testBit_and, Nat.testBit_two_pow_mul_add _ ha, Nat.testBit_two_pow_mul_add _ h8, Nat.testBit_two_pow_mul_add _ l]
  split
  · rw [Nat.testBit_and]
  · rw [Nat.testBit_and]
theorem and8 : ∀ a, a < 16 → (Nat.land a 8 = 8 ↔ 8 ≤ a) := by decide +kernel
theorem and8_le : ∀ a, a < 16 → Nat.land a 8 ≤ 8 := by decide +kernel
/-- all places at once -/
theorem swar : ∀ (xs ys : List Nat), xs.length = ys.length → (∀ x ∈ xs, x ≤ 7) → (∀ y ∈ ys, 7 ≤ y ∧ y ≤ 15) → enc16 xs ≤ enc16 ys ∧ (Nat.land (enc16 ys - enc16 xs) (enc16 (ys.map fun _ => 8)) = enc16 (ys.map fun _ => 8) ↔ ∀ p ∈ xs.zip ys, p.1 + 8 ≤ p.2)
  | [], [], _, _, _ => ⟨Nat.le_refl _, fun _ p hp => (List.not_mem_nil hp).elim, fun _ => rfl⟩
  | x :: xs, y :: ys, hl, hx, hy => by
    obtain ⟨h1, h2⟩ := swar xs ys (by simpa using hl) (fun z hz => hx z (List.mem_cons_of_mem _ hz)) fun z hz => hy z (List.mem_cons_of_mem _ hz)
    have x7 := hx x List.mem_cons_self
    obtain ⟨y7, y15⟩ := hy y List.mem_cons_self
    show x + 16 * enc16 xs ≤ y + 16 * enc16 ys ∧ (Nat.land ((y + 16 * enc16 ys) - (x + 16 * enc16 xs)) (8 + 16 * enc16 (ys.map fun _ => 8)) = 8 + 16 * enc16 (ys.map fun _ => 8) ↔ _)
    have e : (y + 16 * enc16 ys) - (x + 16 * enc16 xs) = (y - x) + 16 * (enc16 ys - enc16 xs) := by omega
    refine ⟨by omega, ?_⟩
    rw [e, and16 (by omega), List.zip_cons_cons, List.forall_mem_cons, ← h2]
    have a := and8 (y - x) (by omega)
    have b := and8_le (y - x) (by omega)
    constructor
    · intro z
      have z1 : Nat.land (y - x) 8 = 8 := by omega
      exact ⟨by have := a.mp z1; show x + 8 ≤ y; omega, by omega⟩
    · rintro ⟨z1, z2⟩
      have z1 : x + 8 ≤ y := z1
      rw [a.mpr (by omega), z2]
  | [], _ :: _, hl, _, _ => by cases hl
  | _ :: _, [], hl, _, _ => by cases hl
/-- the masks of the things -/
def masks (n m : Nat) (ts : List (Nat × Nat)) : List Nat := (List.range n).map fun i => maskP (fun c => decide ((i, c) ∈ ts)) m
theorem heldK_count (M : List Nat) (S : Nat) : heldK M S = (M.filter fun u => !Nat.beq (Nat.land u S) 0).length := by
  unfold heldK
  induction M with
  | nil => rfl
  | cons u M ih =>
    rw [List.foldr_cons, ih, List.filter_cons]
    cases Nat.beq (Nat.land u S) 0 <;> rfl
theorem heldK_masks {n m : Nat} {ts : List (Nat × Nat)} (th : ∀ t ∈ ts, t.1 < n) {S : Nat} (h : S < 2 ^ m) : (heldC n m ts).getD S 0 = heldK (masks n m ts) S := by
  rw [heldC_get th h, heldK_count]
  unfold hcount masks
  rw [List.filter_map, List.length_map]
  congr 1
  refine List.filter_congr fun i _ => ?_
  show _ = !Nat.beq (Nat.land (maskP (fun c => decide ((i, c) ∈ ts)) m) S) 0
  generalize hu : maskP (fun c => decide ((i, c) ∈ ts)) m = u
  rw [Bool.eq_iff_iff, List.any_eq_true]
  have e : (!Nat.beq (Nat.land u S) 0) = true ↔ u &&& S ≠ 0 := by
    rw [Bool.not_eq_true', ← Bool.not_eq_true]
    exact not_congr (iff_of_eq Nat.beq_eq)
  rw [e]
  constructor
  · rintro ⟨c, hc, z⟩
    obtain ⟨z1, z2⟩ := Bool.and_eq_true_iff.mp z
    intro z0
    have : (u &&& S).testBit c = true := by
      rw [Nat.testBit_and, z1, ← hu, maskP_bit _ m c (List.mem_range.mp hc), z2]
      rfl
    rw [z0, Nat.zero_testBit] at this
    cases this
  · intro z
    obtain ⟨c, hc⟩ := Nat.exists_testBit_of_ne_zero z
    rw [Nat.testBit_and] at hc
    obtain ⟨z1, z2⟩ := Bool.and_eq_true_iff.mp hc
    have cm : c < m := (Nat.pow_lt_pow_iff_right (by decide : 1 < 2)).mp (Nat.lt_of_le_of_lt (Nat.ge_two_pow_of_testBit z2) h)
    refine ⟨c, List.mem_range.mpr cm, Bool.and_eq_true_iff.mpr ⟨z2, ?_⟩⟩
    rw [← hu, maskP_bit _ m c cm] at z1
    exact z1
end Kx
end
section
set_option linter.all false
/-! The busy clubs, reckoned. -/
namespace Kx
def codeR (r : List Nat) : Nat := enc16 (subsL r)
def nbrs (r : List Nat) : List (List Nat) := (List.range r.length).map fun c => if r.getD c 0 = 0 then [] else (List.range c).map fun a => codeR (handN r c a)
def tabR (n m : Nat) : List (Nat × List (List Nat)) := (comps (n - 1) m).map fun r => (codeR r, nbrs r)
def anyB (G L : Nat) : List Nat → Bool
  | [] => false
  | a :: as => cond (shownB G L a) true (anyB G L as)
def cntB (G L : Nat) : List (List Nat) → Nat
  | [] => 0
  | l :: ls => cond (anyB G L l) (Nat.succ (cntB G L ls)) (cntB G L ls)
def busyK (G L : Nat) : List (Nat × List (List Nat)) → List Nat
  | [] => []
  | e :: es => cond (shownB G L e.1) (cntB G L e.2 :: busyK G L es) (busyK G L es)
theorem anyB_eq (G L : Nat) : ∀ l, anyB G L l = l.any (shownB G L)
  | [] => rfl
  | a :: l => by
    unfold anyB
    rw [List.any_cons, anyB_eq G L l]
    cases shownB G L a <;> rfl
theorem cntB_eq (G L : Nat) : ∀ l, cntB G L l = (l.filter (anyB G L)).length
  | [] => rfl
  | a :: l => by
    unfold cntB
    rw [List.filter_cons, cntB_eq G L l]
    cases anyB G L a <;> rfl
theorem busyK_eq (G L : Nat) : ∀ l, busyK G L l = (l.filter fun e => shownB G L e.1).map fun e => cntB G L e.2
  | [] => rfl
  | a :: l => by
    unfold busyK
    rw [List.filter_cons, busyK_eq G L l]
    cases shownB G L a.1 <;> rfl
theorem heldK_le (M : List Nat) (S : Nat) : heldK M S ≤ M.length := by
  rw [heldK_count]
  exact List.length_filter_le _ _
theorem limE_enc (M : List Nat) : ∀ Ss, limE M Ss = enc16 (Ss.map fun S => heldK M S + 7)
  | [] => rfl
  | S :: Ss => by
    show Nat.add (Nat.add (heldK M S) 7) (Nat.mul 16 (limE M Ss)) = Nat.add (heldK M S + 7) (Nat.mul 16 (enc16 _))
    rw [limE_enc M Ss]
theorem sum_ge : ∀ {l : List Nat} {x : Nat}, x ∈ l → x ≤ l.sum
  | y :: l, x, h => by
    rw [List.sum_cons]
    rcases List.mem_cons.mp h with rfl | h
    · omega
    · have := sum_ge h
      omega
theorem wsum_le (r : List Nat) (S : Nat → Bool) : wsum r S ≤ r.sum := by
  have h : ∀ l : List Nat, (l.map fun c => if S c then r.getD c 0 else 0).sum ≤ (l.map fun c => r.getD c 0).sum := fun l => by
    induction l with
    | nil => exact Nat.le_refl _
    | cons a l ih =>
      rw [List.map_cons, List.map_cons, List.sum_cons, List.sum_cons]
      split <;> omega
  have := h (List.range r.length)
  rw [o_range r] at this
  exact this
theorem subs_le {r : List Nat} {x : Nat} (h : x ∈ subsL r) : x ≤ r.sum := by
  obtain ⟨S, hS, rfl⟩ := List.getElem_of_mem h
  have hS2 : S < 2 ^ r.length := by
    rw [subsL_len] at hS
    exact hS
  have e : (subsL r)[S] = (subsL r).getD S 0 := by
    rw [List.getD_eq_getElem?_getD, List.getElem?_eq_getElem hS]
    rfl
  rw [e, subs_wsum r S hS2]
  exact wsum_le _ _
theorem range_tail (k : Nat) : List.range (k + 1) = 0 :: (List.range (k + 1)).tail := by
  rw [List.range_succ_eq_map]
  rfl
theorem zip_all {P : Nat → Nat → Prop} {xs ys : List Nat} (hl : xs.length = ys.length) : (∀ p ∈ xs.zip ys, P p.1 p.2) ↔ ∀ i, i < xs.length → P (xs.getD i 0) (ys.getD i 0) := by
  have g : ∀ (l : List Nat) i, i < l.length → ∀ h : i < l.length, l.getD i 0 = l[i] := fun l i hi h => by
    rw [List.getD_eq_getElem?_getD, List.getElem?_eq_getElem h]
    rfl
  constructor
  · intro h i hi
    have := h (xs[i], ys[i]) (List.mem_iff_getElem.mpr ⟨i, by rw [List.length_zip]; omega, List.getElem_zip⟩)
    rw [g xs i hi hi, g ys i (by omega) (by omega)]
    exact this
  · intro h p hp
    obtain ⟨i, hi, rfl⟩ := List.mem_iff_getElem.mp hp
    rw [List.length_zip] at hi
    rw [List.getElem_zip]
    have := h i (by omega)
    rw [g xs i (by omega) (by omega), g ys i (by omega) (by omega)] at this
    exact this
/-- a row shows -/
theorem shownB_iff {n m : Nat} {ts : List (Nat × Nat)} (th : ∀ t ∈ ts, t.1 < n) (n8 : n ≤ 8) {r : List Nat} (hr : r.length = m) (hs : r.sum = n - 1) :
    shownB (guardK m) (limCode (masks n m ts) (List.range (2 ^ m)).tail) (codeR r) = true ↔ r ∈ shownRows n m ts := by
  obtain ⟨k, ek⟩ : ∃ k, 2 ^ m = k + 1 := ⟨2 ^ m - 1, by have := two_pos m; omega⟩
  have hM : (masks n m ts).length = n := by
    unfold masks
    rw [List.length_map, List.length_range]
  let ys : List Nat := (List.range (2 ^ m)).map fun S => if S = 0 then 8 else heldK (masks n m ts) S + 7
  have eL : limCode (masks n m ts) (List.range (2 ^ m)).tail = enc16 ys := by
    show _ = enc16 ((List.range (2 ^ m)).map fun S => if S = 0 then 8 else heldK (masks n m ts) S + 7)
    rw [ek]
    conv => rhs; rw [range_tail k]
    rw [List.map_cons, if_pos rfl]
    unfold limCode
    rw [limE_enc]
    show Nat.add 8 (Nat.mul 16 _) = Nat.add 8 (Nat.mul 16 _)
    congr 3
    refine List.map_congr_left fun S hS => ?_
    rw [if_neg]
    rintro rfl
    rw [List.range_succ_eq_map, List.tail_cons] at hS
    obtain ⟨z, _, e⟩ := List.mem_map.mp hS
    cases e
  have eG : guardK m = enc16 (ys.map fun _ => 8) := by
    unfold guardK
    congr 1
    show _ = ((List.range (2 ^ m)).map _).map _
    rw [List.map_map]
    rfl
  have hl : (subsL r).length = ys.length := by
    show _ = ((List.range (2 ^ m)).map _).length
    rw [subsL_len, List.length_map, List.length_range, hr]
  obtain ⟨le, iff⟩ := swar (subsL r) ys hl (fun x hx => by have := subs_le hx; omega) fun y hy => by
    obtain ⟨S, _, rfl⟩ := List.mem_map.mp hy
    have := heldK_le (masks n m ts) S
    show 7 ≤ (if S = 0 then 8 else heldK (masks n m ts) S + 7) ∧ (if S = 0 then 8 else heldK (masks n m ts) S + 7) ≤ 15
    split <;> omega
  rw [eL, eG]
  unfold shownB codeR
  rw [Nat.beq_eq]
  show Nat.land (enc16 ys - enc16 (subsL r)) (enc16 (ys.map fun _ => 8)) = enc16 (ys.map fun _ => 8) ↔ _
  rw [iff, zip_all (P := fun x y => x + 8 ≤ y) hl, mem_shownL]
  have yget : ∀ S, S < 2 ^ m → ys.getD S 0 = if S = 0 then 8 else heldK (masks n m ts) S + 7 := fun S hS => by
    show ((List.range (2 ^ m)).map _).getD S 0 = _
    rw [List.getD_eq_getElem?_getD, List.getElem?_map, List.getElem?_range hS]
    rfl
  have slen : (subsL r).length = 2 ^ m := by rw [subsL_len, hr]
  constructor
  · intro h
    refine ⟨hr, hs, fun S h1 h2 => ?_⟩
    rw [hr] at h2
    have := h S (by omega)
    rw [yget S h2, if_neg (by omega)] at this
    rw [heldK_masks th h2]
    omega
  · rintro ⟨_, _, h⟩ S hS
    rw [slen] at hS
    rw [yget S hS]
    by_cases z : S = 0
    · subst z
      rw [if_pos rfl, subs_wsum r 0 (by rw [hr]; exact hS)]
      have : wsum r (Nat.testBit 0) = 0 := by
        unfold wsum
        have e : (List.range r.length).map (fun c => if (0 : Nat).testBit c then r.getD c 0 else 0) = (List.range r.length).map fun _ => 0 := List.map_congr_left fun c _ => by
          rw [Nat.zero_testBit]
          rfl
        rw [e]
        generalize List.range r.length = l
        induction l with
        | nil => rfl
        | cons a l ih => rw [List.map_cons, List.sum_cons, ih]
      omega
    · rw [if_neg z]
      have := h S (by omega) (by rw [hr]; exact hS)
      rw [heldK_masks th hS] at this
      omega
theorem handN_sum {r : List Nat} {g t : Nat} (hg : g < r.length) (ht : t < r.length) (ne : g ≠ t) (hp : 0 < r.getD g 0) : (handN r g t).sum = r.sum := by
  have set_sum : ∀ (l : List Nat) (i v : Nat), i < l.length → (l.set i v).sum + l.getD i 0 = l.sum + v := fun l => by
    induction l with
    | nil => intro i v h; cases h
    | cons a l ih =>
      intro i v h
      cases i with
      | zero =>
        show (v :: l).sum + a = (a :: l).sum + v
        rw [List.sum_cons, List.sum_cons]
        omega
      | succ i =>
        have := ih i v (by simpa using h)
        show (a :: l.set i v).sum + l.getD i 0 = (a :: l).sum + v
        rw [List.sum_cons, List.sum_cons]
        omega
  unfold handN incN
  have h1 := set_sum (r.set g (r.getD g 0 - 1)) t ((r.set g (r.getD g 0 - 1)).getD t 0 + 1) (by rw [List.length_set]; exact ht)
  have h2 := set_sum r g (r.getD g 0 - 1) hg
  omega
theorem inward_busyK {n m : Nat} {ts : List (Nat × Nat)} (th : ∀ t ∈ ts, t.1 < n) (n8 : n ≤ 8) :
    inwardN n m ts (List.range m) = numsF (busyK (guardK m) (limCode (masks n m ts) (List.range (2 ^ m)).tail) (tabR n m)) := by
  have key : ∀ {r : List Nat}, r.length = m → r.sum = n - 1 → (shownB (guardK m) (limCode (masks n m ts) (List.range (2 ^ m)).tail) (codeR r) = true ↔ r ∈ shownRows n m ts) := fun h1 h2 => shownB_iff th n8 h1 h2
  generalize limCode (masks n m ts) (List.range (2 ^ m)).tail = L at key
  generalize guardK m = G at key
  unfold inwardN
  refine numsF_perm ?_
  rw [busyK_eq]
  unfold tabR
  rw [List.filter_map, List.map_map]
  have p1 : (shownRows n m ts).Perm ((comps (n - 1) m).filter ((fun e : Nat × List (List Nat) => shownB G L e.1) ∘ fun r => (codeR r, nbrs r))) := by
    refine (List.perm_ext_iff_of_nodup (shownRows_nodup _ _ _) (comps_nodup.filter _)).mpr fun r => ?_
    rw [List.mem_filter, mem_comps]
    constructor
    · intro h
      obtain ⟨h1, h2, _⟩ := mem_shownL.mp h
      exact ⟨⟨h1, h2⟩, (key h1 h2).mpr h⟩
    · rintro ⟨⟨h1, h2⟩, h3⟩
      exact (key h1 h2).mp h3
  refine (p1.map _).trans ?_
  refine List.Perm.of_eq (List.map_congr_left fun r hr => ?_)
  obtain ⟨h0, h3⟩ := List.mem_filter.mp hr
  obtain ⟨h1, h2⟩ := mem_comps.mp h0
  show (busyF _ (asI r) (List.range m)).length = cntB G L (nbrs r)
  rw [busy_len, cntB_eq, List.length_range]
  unfold nbrs
  rw [List.filter_map, List.length_map, h1]
  congr 1
  refine List.filter_congr fun c hc => ?_
  have hc := List.mem_range.mp hc
  show busyAt _ (asI r) (List.range m) c = anyB G L (if r.getD c 0 = 0 then [] else (List.range c).map fun a => codeR (handN r c a))
  have e1 : (List.range m).getD c 0 = c := by
    rw [List.getD_eq_getElem?_getD, List.getElem?_range hc]
    rfl
  have e2 : (List.range m).take c = List.range c := by
    rw [List.take_range]
    congr 1
    omega
  unfold busyAt
  rw [e1, e2, anyB_eq]
  by_cases z : r.getD c 0 = 0
  · rw [if_pos z, List.any_nil, List.any_eq_false]
    intro a ha
    have ha := List.mem_range.mp ha
    rw [decide_eq_true_eq, hand_mem (by omega) (by omega)]
    exact fun ⟨p, _⟩ => by omega
  · rw [if_neg z, List.any_map]
    refine any_congr fun a ha => ?_
    have ha := List.mem_range.mp ha
    show _ = shownB G L (codeR (handN r c a))
    have hl : (handN r c a).length = m := by
      unfold handN incN
      rw [List.length_set, List.length_set, h1]
    rw [Bool.eq_iff_iff, decide_eq_true_eq, hand_mem (by omega) (by omega), key hl (by rw [handN_sum (by omega) (by omega) (by omega) (by omega)]; exact h2)]
    exact ⟨fun h => h.2, fun h => ⟨by omega, h⟩⟩
theorem shown_busyK {n m : Nat} {ts : List (Nat × Nat)} (th : ∀ t ∈ ts, t.1 < n) (n8 : n ≤ 8) (h : busyK (guardK m) (limCode (masks n m ts) (List.range (2 ^ m)).tail) (tabR n m) ≠ []) : shownRows n m ts ≠ [] := by
  rw [busyK_eq] at h
  obtain ⟨e, he⟩ := List.exists_mem_of_ne_nil _ h
  obtain ⟨x, hx, _⟩ := List.mem_map.mp he
  obtain ⟨h1, h2⟩ := List.mem_filter.mp hx
  obtain ⟨r, hr, rfl⟩ := List.mem_map.mp h1
  obtain ⟨a, b⟩ := mem_comps.mp hr
  exact List.ne_nil_of_mem ((shownB_iff th n8 a b).mp h2)
end Kx
end
section
set_option linter.all false
/-! Loads counted by bit sets. -/
namespace Kx
/-- sets of rows of clubs -/
abbrev VS := List Nat → Prop
/-- one unit more at a thing with this mask -/
def stepX (m μ : Nat) (X : VS) : VS := fun b => ∃ b0 c, X b0 ∧ c < m ∧ μ.testBit c = true ∧ b = incN b0 c
def stepN (m μ : Nat) : Nat → VS → VS
  | 0, X => X
  | a + 1, X => stepN m μ a (stepX m μ X)
/-- the club rows to which these thing rows lead -/
def Run (m : Nat) : List Nat → VS → List Nat → List Nat → Prop
  | [], X, a, b => a = [] ∧ X b
  | μ :: M, X, a, b => ∃ k as, a = k :: as ∧ Run m M (stepN m μ k X) as b
def Shift (c : Nat) (X Y : VS) : Prop := ∀ b, X b → Y (incN b c)
theorem Shift.step {m μ c : Nat} {X Y : VS} (h : Shift c X Y) : Shift c (stepX m μ X) (stepX m μ Y) := by
  rintro b ⟨b0, d, h0, hd, hb, rfl⟩
  exact ⟨_, d, h b0 h0, hd, hb, incN_comm _ _ _⟩
theorem Shift.stepN {m μ c : Nat} : ∀ {k : Nat} {X Y : VS}, Shift c X Y → Shift c (stepN m μ k X) (stepN m μ k Y)
  | 0, _, _, h => h
  | k + 1, _, _, h => Shift.stepN (k := k) h.step
theorem Shift.run {m c : Nat} : ∀ {M : List Nat} {X Y : VS} {a b : List Nat}, Shift c X Y → Run m M X a b → Run m M Y a (incN b c)
  | [], _, _, _, _, h, ⟨e, r⟩ => ⟨e, h _ r⟩
  | _ :: _, _, _, _, _, h, ⟨k, as, e, r⟩ => ⟨k, as, e, Shift.run h.stepN r⟩
/-- a unit more at the i-th thing -/
theorem Run.more {m c : Nat} (hc : c < m) : ∀ {M : List Nat} {X : VS} {a b : List Nat} {i : Nat}, i < M.length → (M.getD i 0).testBit c = true → Run m M X a b → Run m M X (incN a i) (incN b c)
  | μ :: M, X, _, b, 0, _, hb, ⟨k, as, e, r⟩ => by
    subst e
    refine ⟨k + 1, as, rfl, ?_⟩
    have s : Shift c X (stepX m μ X) := fun b0 h0 => ⟨b0, c, h0, hc, hb, rfl⟩
    exact s.stepN.run r
  | μ :: M, X, _, b, i + 1, hi, hb, ⟨k, as, e, r⟩ => by
    subst e
    exact ⟨k, incN as i, rfl, Run.more hc (by simpa using hi) hb r⟩
theorem Run.zero {m : Nat} : ∀ (M : List Nat) {X : VS} {b : List Nat}, X b → Run m M X (List.replicate M.length 0) b
  | [], _, _, h => ⟨rfl, h⟩
  | μ :: M, X, b, h => ⟨0, List.replicate M.length 0, rfl, Run.zero M h⟩
theorem Run.dim {m : Nat} : ∀ {M : List Nat} {X : VS} {a b : List Nat}, Run m M X a b → a.length = M.length
  | [], _, _, _, ⟨e, _⟩ => by rw [e]
  | _ :: _, _, _, _, ⟨k, as, e, r⟩ => by rw [e, List.length_cons, Run.dim r, List.length_cons]
def zeroX (m : Nat) : VS := fun b => b = List.replicate m 0
theorem masks_len (n m : Nat) (ts : List (Nat × Nat)) : (masks n m ts).length = n := by
  unfold masks
  rw [List.length_map, List.length_range]
theorem masks_bit {n m : Nat} {ts : List (Nat × Nat)} {i c : Nat} (hi : i < n) (hc : c < m) : ((masks n m ts).getD i 0).testBit c = decide ((i, c) ∈ ts) := by
  unfold masks
  rw [List.getD_eq_getElem?_getD, List.getElem?_map, List.getElem?_range hi]
  exact maskP_bit _ m c hc
theorem load_run {n m : Nat} {ts : List (Nat × Nat)} (th : ∀ t ∈ ts, t.1 < n) (cl : ∀ t ∈ ts, t.2 < m) : ∀ k l, l ∈ loadsL n m ts k → Run m (masks n m ts) (zeroX m) l.1 l.2
  | 0, l, h => by
    have e : l = zeroL n m := List.mem_singleton.mp h
    subst e
    have := Run.zero (m := m) (masks n m ts) (X := zeroX m) (b := List.replicate m 0) rfl
    rw [masks_len] at this
    exact this
  | k + 1, l, h => by
    obtain ⟨l0, h0, h1⟩ := List.mem_flatMap.mp h
    obtain ⟨t, ht, rfl⟩ := List.mem_map.mp h1
    exact Run.more (cl t ht) (by rw [masks_len]; exact th t ht) (by rw [masks_bit (th t ht) (cl t ht)]; exact decide_eq_true ht) (load_run th cl k l0 h0)
theorem incN_at (p : List Nat) (x : Nat) (q : List Nat) : incN (p ++ x :: q) p.length = p ++ (x + 1) :: q := by
  unfold incN
  rw [List.getD_eq_getElem?_getD, List.getElem?_append_right (Nat.le_refl _), Nat.sub_self, List.set_append_right _ _ (Nat.le_refl _), Nat.sub_self]
  rfl
/-- from the units dealt out thing by thing to a load -/
theorem stepN_load {n m : Nat} {ts : List (Nat × Nat)} {μ : Nat} {pre post : List Nat} (hμ : ∀ c, c < m → μ.testBit c = true → (pre.length, c) ∈ ts) : ∀ (k x j : Nat) (X : VS), (∀ b, X b → (pre ++ x :: post, b) ∈ loadsL n m ts j) → ∀ b, stepN m μ k X b → (pre ++ (x + k) :: post, b) ∈ loadsL n m ts (j + k)
  | 0, x, j, X, h, b, hb => h b hb
  | k + 1, x, j, X, h, b, hb => by
    have := stepN_load hμ k (x + 1) (j + 1) (stepX m μ X) (fun b' ⟨b0, c, h0, hc, hb, e⟩ => by
      subst e
      refine List.mem_flatMap.mpr ⟨_, h b0 h0, List.mem_map.mpr ⟨_, hμ c hc hb, ?_⟩⟩
      unfold oneMore
      rw [incN_at]) b hb
    have e1 : x + 1 + k = x + (k + 1) := by omega
    have e2 : j + 1 + k = j + (k + 1) := by omega
    rw [e1, e2] at this
    exact this
theorem run_load {n m : Nat} {ts : List (Nat × Nat)} : ∀ (M : List Nat) (pre : List Nat) (j : Nat) (X : VS), (∀ i, i < M.length → ∀ c, c < m → (M.getD i 0).testBit c = true → (pre.length + i, c) ∈ ts) → (∀ b, X b → (pre ++ List.replicate M.length 0, b) ∈ loadsL n m ts j) →
    ∀ a b, Run m M X a b → (pre ++ a, b) ∈ loadsL n m ts (j + a.sum)
  | [], pre, j, X, _, h, a, b, ⟨e, r⟩ => by
    subst e
    exact h b r
  | μ :: M, pre, j, X, hM, h, _, b, ⟨k, as, e, r⟩ => by
    subst e
    have h0 : ∀ c, c < m → μ.testBit c = true → (pre.length, c) ∈ ts := fun c hc hb => hM 0 (by simp) c hc hb
    have st := stepN_load (n := n) (post := List.replicate M.length 0) h0 k 0 j X h
    have := run_load M (pre ++ [k]) (j + k) (stepN m μ k X) (fun i hi c hc hb => by
      have := hM (i + 1) (by simpa using hi) c hc hb
      rw [List.length_append, List.length_singleton, Nat.add_assoc, Nat.add_comm 1 i]
      exact this) (fun b hb => by
      have := st b hb
      rw [Nat.zero_add] at this
      rw [List.append_assoc]
      exact this) as b r
    rw [List.append_assoc] at this
    rw [List.sum_cons, ← Nat.add_assoc]
    exact this
theorem load_iff {n m : Nat} {ts : List (Nat × Nat)} (th : ∀ t ∈ ts, t.1 < n) (cl : ∀ t ∈ ts, t.2 < m) (k : Nat) (l : Load) : l ∈ loadsL n m ts k ↔ l.1.sum = k ∧ Run m (masks n m ts) (zeroX m) l.1 l.2 := by
  have key : Run m (masks n m ts) (zeroX m) l.1 l.2 → l ∈ loadsL n m ts l.1.sum := fun r => by
    have := run_load (n := n) (ts := ts) (masks n m ts) [] 0 (zeroX m) (fun i hi c hc hb => by
      rw [masks_len] at hi
      rw [masks_bit hi hc] at hb
      rw [List.length_nil, Nat.zero_add]
      exact of_decide_eq_true hb) (fun b hb => by
      rw [masks_len]
      have e : b = List.replicate m 0 := hb
      subst e
      exact List.mem_singleton.mpr rfl) l.1 l.2 r
    rw [Nat.zero_add] at this
    exact this
  have sum1 : ∀ (a : List Nat) i, i < a.length → (incN a i).sum = a.sum + 1 := fun a => by
    induction a with
    | nil => intro i h; cases h
    | cons x a ih =>
      intro i h
      cases i with
      | zero =>
        show ((x + 1) :: a).sum = (x :: a).sum + 1
        rw [List.sum_cons, List.sum_cons]
        omega
      | succ i =>
        have := ih i (by simpa using h)
        show (x :: incN a i).sum = (x :: a).sum + 1
        rw [List.sum_cons, List.sum_cons]
        omega
  have size : ∀ k l, l ∈ loadsL n m ts k → l.1.sum = k := fun k => by
    induction k with
    | zero =>
      intro l h
      have e : l = zeroL n m := List.mem_singleton.mp h
      subst e
      show (List.replicate n 0).sum = 0
      simp
    | succ k ih =>
      intro l h
      obtain ⟨l0, h0, h1⟩ := List.mem_flatMap.mp h
      obtain ⟨t, ht, rfl⟩ := List.mem_map.mp h1
      show (incN l0.1 t.1).sum = k + 1
      rw [sum1 _ _ (by rw [(loadsL_dim n m ts k l0 h0).1]; exact th t ht), ih l0 h0]
  exact ⟨fun h => ⟨size k l h, load_run th cl k l h⟩, fun ⟨e, r⟩ => e ▸ key r⟩
end Kx
end
section
set_option linter.all false
/-! Loads counted by bit sets: the reckoning. -/
namespace Kx
def code5 : List Nat → Nat
  | [] => 0
  | x :: xs => Nat.add x (Nat.mul 5 (code5 xs))
def stepB (μ B : Nat) : List (Nat × Nat) → Nat
  | [] => 0
  | p :: ps => cond (Nat.beq (Nat.land μ p.1) 0) (stepB μ B ps) (Nat.lor (Nat.shiftLeft B p.2) (stepB μ B ps))
def popc (B : Nat) : List Nat → Nat
  | [] => 0
  | c :: cs => cond (Nat.beq (Nat.land 1 (Nat.shiftRight B c)) 0) (popc B cs) (Nat.succ (popc B cs))
def innerK (F : Nat → Nat → Nat) (st : Nat → Nat) : Nat → Nat → Nat
  | 0, B => F 0 B
  | s + 1, B => Nat.add (F (s + 1) B) (innerK F st s (st B))
def cntF (ps : List (Nat × Nat)) (codes : List Nat) : List Nat → Nat → Nat → Nat
  | [], s, B => cond (Nat.beq s 0) (popc B codes) 0
  | μ :: M, s, B => innerK (cntF ps codes M) (fun B => stepB μ B ps) s B
def psK (m : Nat) : List (Nat × Nat) := (List.range m).map fun c => (2 ^ c, 5 ^ c)
def Rep (B : Nat) (X : VS) : Prop := ∀ x, B.testBit x = true ↔ ∃ b, X b ∧ code5 b = x
theorem code5_inc : ∀ (b : List Nat) (c : Nat), c < b.length → code5 (incN b c) = code5 b + 5 ^ c
  | x :: b, 0, _ => by
    show (x + 1) + 5 * code5 b = x + 5 * code5 b + 5 ^ 0
    omega
  | x :: b, c + 1, h => by
    have := code5_inc b c (by simpa using h)
    show x + 5 * code5 (incN b c) = x + 5 * code5 b + 5 ^ (c + 1)
    rw [this, Nat.pow_succ]
    omega
theorem code5_inj : ∀ {a b : List Nat}, a.length = b.length → (∀ x ∈ a, x ≤ 4) → (∀ x ∈ b, x ≤ 4) → code5 a = code5 b → a = b
  | [], [], _, _, _, _ => rfl
  | x :: a, y :: b, hl, ha, hb, e => by
    have e : x + 5 * code5 a = y + 5 * code5 b := e
    have h1 := ha x List.mem_cons_self
    have h2 := hb y List.mem_cons_self
    have e1 : x = y := by omega
    have e2 : code5 a = code5 b := by omega
    rw [e1, code5_inj (by simpa using hl) (fun z hz => ha z (List.mem_cons_of_mem _ hz)) (fun z hz => hb z (List.mem_cons_of_mem _ hz)) e2]
  | [], _ :: _, hl, _, _, _ => by cases hl
  | _ :: _, [], hl, _, _, _ => by cases hl
theorem stepB_bit (μ B x : Nat) : ∀ ps, (stepB μ B ps).testBit x = ps.any fun p => !Nat.beq (Nat.land μ p.1) 0 && (Nat.shiftLeft B p.2).testBit x
  | [] => Nat.zero_testBit x
  | p :: ps => by
    unfold stepB
    rw [List.any_cons]
    cases Nat.beq (Nat.land μ p.1) 0 with
    | true =>
      show (stepB μ B ps).testBit x = _
      rw [stepB_bit μ B x ps]
      rfl
    | false =>
      show (Nat.shiftLeft B p.2 ||| stepB μ B ps).testBit x = _
      rw [Nat.testBit_or, stepB_bit μ B x ps]
      rfl
theorem land_pow (μ c : Nat) : (!Nat.beq (Nat.land μ (2 ^ c)) 0) = μ.testBit c := by
  have e : Nat.land μ (2 ^ c) = if μ.testBit c = true then 2 ^ c else 0 := by
    show μ &&& 2 ^ c = _
    apply Nat.eq_of_testBit_eq
    intro i
    rw [Nat.testBit_and, Nat.testBit_two_pow]
    by_cases h : c = i
    · subst h
      cases μ.testBit c <;> simp
    · rw [decide_eq_false h, Bool.and_false]
      split
      · rw [Nat.testBit_two_pow, decide_eq_false h]
      · rw [Nat.zero_testBit]
  rw [e]
  cases μ.testBit c with
  | false => rfl
  | true =>
    have := two_pos c
    rw [if_pos rfl, Bool.not_eq_true', ← Bool.not_eq_true]
    intro z
    have := Nat.eq_of_beq_eq_true z
    omega
theorem Rep.step {m μ B : Nat} {X : VS} (h : Rep B X) (hl : ∀ b, X b → b.length = m) : Rep (stepB μ B (psK m)) (stepX m μ X) := fun x => by
  rw [stepB_bit]
  unfold psK
  rw [List.any_map, List.any_eq_true]
  constructor
  · rintro ⟨c, hc, z⟩
    have hc := List.mem_range.mp hc
    obtain ⟨z1, z2⟩ := Bool.and_eq_true_iff.mp z
    have z1 : (!Nat.beq (Nat.land μ (2 ^ c)) 0) = true := z1
    rw [land_pow] at z1
    have z2 : (B <<< (5 ^ c)).testBit x = true := z2
    rw [Nat.testBit_shiftLeft] at z2
    obtain ⟨z3, z4⟩ := Bool.and_eq_true_iff.mp z2
    have z3 := of_decide_eq_true z3
    obtain ⟨b, hb, e⟩ := (h _).mp z4
    exact ⟨incN b c, ⟨b, c, hb, hc, z1, rfl⟩, by rw [code5_inc b c (by rw [hl b hb]; exact hc), e]; omega⟩
  · rintro ⟨_, ⟨b, c, hb, hc, z1, rfl⟩, e⟩
    rw [code5_inc b c (by rw [hl b hb]; exact hc)] at e
    refine ⟨c, List.mem_range.mpr hc, Bool.and_eq_true_iff.mpr ⟨?_, ?_⟩⟩
    · show (!Nat.beq (Nat.land μ (2 ^ c)) 0) = true
      rw [land_pow, z1]
    · show (B <<< (5 ^ c)).testBit x = true
      rw [Nat.testBit_shiftLeft]
      refine Bool.and_eq_true_iff.mpr ⟨decide_eq_true (by omega), (h _).mpr ⟨b, hb, by omega⟩⟩
theorem popc_eq (B : Nat) : ∀ cs, popc B cs = (cs.filter B.testBit).length
  | [] => rfl
  | c :: cs => by
    have e : B.testBit c = !Nat.beq (Nat.land 1 (Nat.shiftRight B c)) 0 := by
      unfold Nat.testBit
      show (1 &&& B >>> c != 0) = !Nat.beq (1 &&& B >>> c) 0
      generalize (1 &&& B >>> c) = z
      cases z <;> rfl
    unfold popc
    rw [List.filter_cons, e, popc_eq B cs]
    cases Nat.beq (Nat.land 1 (Nat.shiftRight B c)) 0 <;> rfl
def HasLen (ls : List Load) (n : Nat) (P : List Nat → List Nat → Prop) : Prop := ls.Nodup ∧ (∀ l, l ∈ ls ↔ P l.1 l.2) ∧ ls.length = n
def incH : List Nat → List Nat
  | [] => []
  | k :: as => (k + 1) :: as
theorem cntF_ok {m S0 : Nat} (h4 : S0 ≤ 4) : ∀ (M : List Nat) (s B : Nat) (X : VS), Rep B X → (∀ b, X b → b.length = m ∧ b.sum + s = S0) → ∃ ls, HasLen ls (cntF (psK m) ((comps S0 m).map code5) M s B) fun a b => a.sum = s ∧ Run m M X a b
  | [], s, B, X, rep, hX => by
    by_cases e : s = 0
    · subst e
      refine ⟨((comps S0 m).filter fun b => B.testBit (code5 b)).map fun b => ([], b), nodup_map_on (comps_nodup.filter _) fun x _ y _ e => (Prod.mk.inj e).2, fun l => ?_, ?_⟩
      · rw [List.mem_map]
        constructor
        · rintro ⟨b, hb, rfl⟩
          obtain ⟨h1, h2⟩ := List.mem_filter.mp hb
          obtain ⟨d1, d2⟩ := mem_comps.mp h1
          obtain ⟨b', hb', e⟩ := (rep _).mp h2
          obtain ⟨d3, d4⟩ := hX b' hb'
          have : b' = b := code5_inj (by omega) (fun x hx => by have := sum_ge hx; omega) (fun x hx => by have := sum_ge hx; omega) e
          exact ⟨rfl, rfl, this ▸ hb'⟩
        · rintro ⟨_, h2, h3⟩
          obtain ⟨a, b⟩ := l
          have h2 : a = [] := h2
          subst h2
          obtain ⟨d3, d4⟩ := hX b h3
          exact ⟨b, List.mem_filter.mpr ⟨mem_comps.mpr ⟨d3, d4⟩, (rep _).mpr ⟨b, h3, rfl⟩⟩, rfl⟩
      · show _ = popc B _
        rw [popc_eq, List.length_map, List.filter_map, List.length_map]
        rfl
    · refine ⟨[], List.nodup_nil, fun l => ⟨fun h => (List.not_mem_nil h).elim, fun ⟨h1, h2, _⟩ => ?_⟩, ?_⟩
      · rw [h2] at h1
        exact (e h1.symm).elim
      · unfold cntF
        cases s with
        | zero => exact (e rfl).elim
        | succ s => rfl
  | μ :: M, s, B, X, rep, hX => by
    show ∃ ls, HasLen ls (innerK (cntF (psK m) ((comps S0 m).map code5) M) (fun B => stepB μ B (psK m)) s B) _
    induction s generalizing B X with
    | zero =>
      obtain ⟨ls, nd, mem, len⟩ := cntF_ok h4 M 0 B X rep hX
      refine ⟨ls.map fun l => (0 :: l.1, l.2), nodup_map_on nd fun x _ y _ e => Prod.ext (List.cons.inj (Prod.mk.inj e).1).2 (Prod.mk.inj e).2, fun l => ?_, by rw [List.length_map, len]; rfl⟩
      rw [List.mem_map]
      constructor
      · rintro ⟨l0, h0, rfl⟩
        obtain ⟨h1, h2⟩ := (mem l0).mp h0
        exact ⟨by show (0 :: l0.1).sum = 0; rw [List.sum_cons, h1], 0, l0.1, rfl, h2⟩
      · rintro ⟨h1, k, as, e, r⟩
        rw [e, List.sum_cons] at h1
        have hk : k = 0 := by omega
        subst hk
        exact ⟨(as, l.2), (mem _).mpr ⟨by show as.sum = 0; omega, r⟩, Prod.ext e.symm rfl⟩
    | succ s ih =>
      obtain ⟨ls, nd, mem, len⟩ := cntF_ok h4 M (s + 1) B X rep hX
      obtain ⟨ms, nd2, mem2, len2⟩ := ih (stepB μ B (psK m)) (stepX m μ X) (rep.step fun b hb => (hX b hb).1) (fun b ⟨b0, c, h0, hc, _, e⟩ => by
        obtain ⟨d1, d2⟩ := hX b0 h0
        subst e
        refine ⟨by rw [incN_len]; exact d1, ?_⟩
        have sum1 : ∀ (a : List Nat) i, i < a.length → (incN a i).sum = a.sum + 1 := fun a => by
          induction a with
          | nil => intro i h; cases h
          | cons x a ih =>
            intro i h
            cases i with
            | zero =>
              show ((x + 1) :: a).sum = (x :: a).sum + 1
              rw [List.sum_cons, List.sum_cons]
              omega
            | succ i =>
              have := ih i (by simpa using h)
              show (x :: incN a i).sum = (x :: a).sum + 1
              rw [List.sum_cons, List.sum_cons]
              omega
        rw [sum1 _ _ (by omega)]
        omega)
      have hne : ∀ l ∈ ms, ∃ k as, l.1 = k :: as := fun l hl => by
        obtain ⟨_, k, as, e, _⟩ := (mem2 l).mp hl
        exact ⟨k, as, e⟩
      refine ⟨ls.map (fun l => (0 :: l.1, l.2)) ++ ms.map (fun l => (incH l.1, l.2)), ?_, fun l => ?_, ?_⟩
      · refine List.nodup_append.mpr ⟨nodup_map_on nd fun x _ y _ e => Prod.ext (List.cons.inj (Prod.mk.inj e).1).2 (Prod.mk.inj e).2, nodup_map_on nd2 fun x hx y hy e => ?_, fun x hx y hy e => ?_⟩
        · obtain ⟨k, as, e1⟩ := hne x hx
          obtain ⟨l, bs, e2⟩ := hne y hy
          obtain ⟨e3, e4⟩ := Prod.mk.inj e
          rw [e1, e2] at e3
          obtain ⟨e5, e6⟩ := List.cons.inj e3
          refine Prod.ext ?_ e4
          rw [e1, e2, e6, Nat.succ.inj e5]
        · obtain ⟨u, _, rfl⟩ := List.mem_map.mp hx
          obtain ⟨v, hv, rfl⟩ := List.mem_map.mp hy
          obtain ⟨k, as, e1⟩ := hne v hv
          have e3 := (Prod.mk.inj e).1
          rw [e1] at e3
          have := (List.cons.inj e3).1
          omega
      · rw [List.mem_append, List.mem_map, List.mem_map]
        constructor
        · rintro (⟨l0, h0, rfl⟩ | ⟨l0, h0, rfl⟩)
          · obtain ⟨h1, h2⟩ := (mem l0).mp h0
            exact ⟨by show (0 :: l0.1).sum = s + 1; rw [List.sum_cons, h1]; omega, 0, l0.1, rfl, h2⟩
          · obtain ⟨h1, k, as, e, r⟩ := (mem2 l0).mp h0
            refine ⟨?_, k + 1, as, ?_, r⟩
            · show (incH l0.1).sum = s + 1
              rw [e] at h1 ⊢
              show ((k + 1) :: as).sum = s + 1
              rw [List.sum_cons] at h1 ⊢
              omega
            · show incH l0.1 = _
              rw [e]
              rfl
        · rintro ⟨h1, k, as, e, r⟩
          rw [e, List.sum_cons] at h1
          cases k with
          | zero => exact .inl ⟨(as, l.2), (mem _).mpr ⟨by show as.sum = s + 1; omega, r⟩, Prod.ext e.symm rfl⟩
          | succ k => exact .inr ⟨(k :: as, l.2), (mem2 _).mpr ⟨by show (k :: as).sum = s; rw [List.sum_cons]; omega, k, as, rfl, r⟩, Prod.ext e.symm rfl⟩
      · rw [List.length_append, List.length_map, List.length_map, len, len2]
        rfl
theorem cnt_cntF {n m : Nat} {ts : List (Nat × Nat)} (th : ∀ t ∈ ts, t.1 < n) (cl : ∀ t ∈ ts, t.2 < m) {k : Nat} (h4 : k ≤ 4) : cnt n m ts k = cntF (psK m) ((comps k m).map code5) (masks n m ts) k 1 := by
  have code0 : ∀ m, code5 (List.replicate m 0) = 0 := fun m => by
    induction m with
    | zero => rfl
    | succ m ih =>
      show 0 + 5 * code5 (List.replicate m 0) = 0
      rw [ih]
  obtain ⟨ls, nd, mem, len⟩ := cntF_ok (m := m) h4 (masks n m ts) k 1 (zeroX m) (fun x => by
    have e1 : (1 : Nat).testBit x = decide (x = 0) := by
      cases x with
      | zero => rfl
      | succ x => simp [Nat.testBit_succ]
    rw [e1, decide_eq_true_eq]
    exact ⟨fun h => ⟨_, rfl, by rw [code0, h]⟩, fun ⟨b, hb, e⟩ => by
      have hb : b = List.replicate m 0 := hb
      rw [← e, hb, code0]⟩) fun b hb => by
      have hb : b = List.replicate m 0 := hb
      rw [hb]
      simp
  have a : LoadsAre n m ts k ls := ⟨nd, fun l => (mem l).trans (load_iff th cl k l).symm⟩
  rw [← a.cnt, len]
end Kx
end
section
set_option linter.all false
set_option maxRecDepth 100000
/-! The check over all ascending lists of masks. -/
namespace Kx
def popm (m u : Nat) : Nat := ((List.range m).filter u.testBit).length
def tieK (m : Nat) (M : List Nat) : Nat := (M.map (popm m)).sum
def crossK (full R : Nat) : List Nat → Bool
  | [] => false
  | u :: M => cond (Nat.beq (Nat.land u R) 0) (crossK full R M) (cond (Nat.beq (Nat.land u (Nat.sub full R)) 0) (crossK full R M) true)
/-- a mask crosses each set of clubs 1..R -/
def connK (full : Nat) (M : List Nat) : Nat → Bool
  | 0 => true
  | R + 1 => cond (crossK full (R + 1) M) (connK full M R) false
def leK (a b : List Nat) : Bool := match a, b with
  | [], _ => true
  | _ :: _, [] => false
  | x :: a, y :: b => cond (Nat.ble x y) (leK a b) false
structure TabK where
  G : Nat
  Ss : List Nat
  rows : List (Nat × List (List Nat))
  ps : List (Nat × Nat)
  codes : List (List Nat)
def tabK (n m : Nat) : TabK := ⟨guardK m, (List.range (2 ^ m)).tail, tabR n m, psK m, (List.range 5).map fun k => (comps k m).map code5⟩
def busyM (T : TabK) (M : List Nat) : List Nat := busyK T.G (limCode M T.Ss) T.rows
def cntM (T : TabK) (M : List Nat) (s : Nat) : Nat := cntF T.ps (T.codes.getD s []) M s 1
/-- no number falls by one tie more at a thing -/
def growC (T : TabK) (M N : List Nat) (i u : Nat) : Nat → Bool
  | 0 => true
  | c + 1 => cond (Nat.beq (Nat.land u (2 ^ c)) 0) (cond (leK N (numsF (busyM T (M.set i (Nat.add u (2 ^ c)))))) (growC T M N i u c) false) (growC T M N i u c)
def growK (T : TabK) (m : Nat) (M N : List Nat) : Nat → Bool
  | 0 => true
  | i + 1 => cond (growC T M N i (M.getD i 0) m) (growK T m M N i) false
def okN (n m : Nat) (T : TabK) (M N : List Nat) (t : Nat) : Bool :=
  cond (decide (fromN (n + m - 1) ((List.range (min n m)).map (cntM T M)) = asI N))
    (cond (Nat.ble t 9) (cond (growK T m M N n) (cond (Nat.ble t 7 || Nat.ble (min n m) 3) (decide (loadCntI (asI N) (min n m) (n + m - 2) = cntM T M (min n m))) true) false) true) false
def okB (n m : Nat) (T : TabK) (M bs : List Nat) (t : Nat) : Bool := cond bs.isEmpty false (cond (Nat.ble bs.length 1000) (okN n m T M (numsF bs) t) false)
def okM (n m : Nat) (T : TabK) (M : List Nat) : Bool := cond (connK (2 ^ m - 1) M (2 ^ m - 2)) (cond (Nat.ble (tieK m M) 10) (okB n m T M (busyM T M) (tieK m M)) true) true
def upTo (f : Nat → Bool) : Nat → Bool
  | 0 => true
  | u + 1 => cond (f (u + 1)) (upTo f u) false
def allD (p : List Nat → Bool) : Nat → Nat → List Nat → Bool
  | 0, _, acc => p acc
  | k + 1, hi, acc => upTo (fun u => allD p k u (u :: acc)) hi
end Kx
end
section
set_option linter.all false
/-! What the check says of each ascending list; lists of masks in any order. -/
namespace Kx
theorem upTo_ok {f : Nat → Bool} : ∀ {hi u : Nat}, upTo f hi = true → 1 ≤ u → u ≤ hi → f u = true
  | 0, u, _, h1, h2 => by omega
  | h + 1, u, e, h1, h2 => by
    unfold upTo at e
    cases hf : f (h + 1) with
    | false => rw [hf] at e; cases e
    | true =>
      rw [hf] at e
      by_cases z : u = h + 1
      · rw [z, hf]
      · exact upTo_ok (hi := h) e h1 (by omega)
theorem allD_ok {p : List Nat → Bool} : ∀ (L acc : List Nat) (hi : Nat), allD p L.length hi acc = true → (∀ x ∈ L, 1 ≤ x ∧ x ≤ hi) → L.Pairwise (· ≤ ·) → p (L ++ acc) = true := fun L => by
  suffices h : ∀ (k : Nat) (L : List Nat), L.length = k → ∀ (acc : List Nat) (hi : Nat), allD p k hi acc = true → (∀ x ∈ L, 1 ≤ x ∧ x ≤ hi) → L.Pairwise (· ≤ ·) → p (L ++ acc) = true from fun acc hi e => h L.length L rfl acc hi e
  intro k
  induction k with
  | zero =>
    intro L hl acc hi e _ _
    rw [List.length_eq_zero_iff.mp hl]
    exact e
  | succ k ih =>
    intro L hl acc hi e hx so
    obtain ⟨r, u, rfl⟩ : ∃ r u, L = r ++ [u] := ⟨_, _, (List.dropLast_concat_getLast (by intro z; subst z; cases hl)).symm⟩
    have hr : r.length = k := by simpa using hl
    obtain ⟨u1, u2⟩ := hx u (by simp)
    obtain ⟨s1, _, s2⟩ := List.pairwise_append.mp so
    have := ih r hr (u :: acc) u (upTo_ok e u1 u2) (fun x hx' => ⟨(hx x (by simp [hx'])).1, s2 x hx' u (by simp)⟩) s1
    rw [List.append_assoc]
    exact this
theorem heldK_perm {M N : List Nat} (h : M.Perm N) (S : Nat) : heldK M S = heldK N S := by
  rw [heldK_count, heldK_count]
  exact (h.filter _).length_eq
theorem limCode_perm {M N : List Nat} (h : M.Perm N) (Ss : List Nat) : limCode M Ss = limCode N Ss := by
  unfold limCode
  rw [limE_enc, limE_enc]
  congr 3
  exact List.map_congr_left fun S _ => by rw [heldK_perm h]
theorem busyM_perm {M N : List Nat} (h : M.Perm N) (T : TabK) : busyM T M = busyM T N := by
  unfold busyM
  rw [limCode_perm h]
theorem tieK_perm {M N : List Nat} (h : M.Perm N) (m : Nat) : tieK m M = tieK m N := (h.map _).sum_nat
theorem crossK_iff (full R : Nat) : ∀ M, crossK full R M = true ↔ ∃ u ∈ M, u &&& R ≠ 0 ∧ u &&& (full - R) ≠ 0
  | [] => ⟨fun h => (by cases h), fun ⟨_, h, _⟩ => (List.not_mem_nil h).elim⟩
  | u :: M => by
    have ih := crossK_iff full R M
    have b : ∀ x : Nat, Nat.beq x 0 = true ↔ x = 0 := fun x => iff_of_eq Nat.beq_eq
    unfold crossK
    cases h1 : Nat.beq (Nat.land u R) 0 with
    | true =>
      have z : u &&& R = 0 := (b _).mp h1
      show crossK full R M = true ↔ _
      rw [ih]
      constructor
      · rintro ⟨x, hx, e⟩
        exact ⟨x, List.mem_cons_of_mem _ hx, e⟩
      · rintro ⟨x, hx, e1, e2⟩
        rcases List.mem_cons.mp hx with rfl | hx
        · exact (e1 z).elim
        · exact ⟨x, hx, e1, e2⟩
    | false =>
      have z : u &&& R ≠ 0 := fun e => by
        have := (b _).mpr e
        rw [show Nat.beq (u &&& R) 0 = Nat.beq (Nat.land u R) 0 from rfl, h1] at this
        cases this
      cases h2 : Nat.beq (Nat.land u (Nat.sub full R)) 0 with
      | true =>
        have z2 : u &&& (full - R) = 0 := (b _).mp h2
        show crossK full R M = true ↔ _
        rw [ih]
        constructor
        · rintro ⟨x, hx, e⟩
          exact ⟨x, List.mem_cons_of_mem _ hx, e⟩
        · rintro ⟨x, hx, e1, e2⟩
          rcases List.mem_cons.mp hx with rfl | hx
          · exact (e2 z2).elim
          · exact ⟨x, hx, e1, e2⟩
      | false =>
        refine ⟨fun _ => ⟨u, List.mem_cons_self, z, fun e => ?_⟩, fun _ => rfl⟩
        have := (b _).mpr e
        rw [show Nat.beq (u &&& (full - R)) 0 = Nat.beq (Nat.land u (Nat.sub full R)) 0 from rfl, h2] at this
        cases this
theorem connK_of {full : Nat} {M : List Nat} : ∀ k, (∀ R, 1 ≤ R → R ≤ k → ∃ u ∈ M, u &&& R ≠ 0 ∧ u &&& (full - R) ≠ 0) → connK full M k = true
  | 0, _ => rfl
  | R + 1, h => by
    unfold connK
    rw [(crossK_iff full (R + 1) M).mpr (h (R + 1) (by omega) (Nat.le_refl _))]
    exact connK_of R fun R' a b => h R' a (by omega)
end Kx
end
section
set_option linter.all false
/-! Things in ascending order of their masks; a web in one piece is crossed by masks. -/
namespace Kx
structure Good (n m : Nat) (ts : List (Nat × Nat)) : Prop where
  n1 : 1 ≤ n
  n4 : n ≤ 4
  m1 : 1 ≤ m
  m4 : m ≤ 4
  few : ts.length ≤ 10
  th : ∀ t ∈ ts, t.1 < n
  cl : ∀ t ∈ ts, t.2 < m
  nd : ts.Nodup
  conn : ConnOn ts (List.range n) (List.range m)
def maskT (m : Nat) (ts : List (Nat × Nat)) (i : Nat) : Nat := maskP (fun c => decide ((i, c) ∈ ts)) m
theorem maskT_bit {m : Nat} {ts : List (Nat × Nat)} {i c : Nat} (hc : c < m) : (maskT m ts i).testBit c = decide ((i, c) ∈ ts) := maskP_bit _ m c hc
theorem Good.flip {n m : Nat} {ts : List (Nat × Nat)} (g : Good n m ts) : Good m n (flipT ts) where
  n1 := g.m1
  n4 := g.m4
  m1 := g.n1
  m4 := g.n4
  few := by
    unfold flipT
    rw [List.length_map]
    exact g.few
  th := fun t ht => g.cl _ (mem_flipT.mp ht)
  cl := fun t ht => g.th _ (mem_flipT.mp ht)
  nd := nodup_map_on g.nd fun x _ y _ e => Prod.ext (Prod.mk.inj e).2 (Prod.mk.inj e).1
  conn := g.conn.flip g.m1
theorem Good.relC {n m : Nat} {ts : List (Nat × Nat)} {o : List Nat} (g : Good n m ts) (h : o.Perm (List.range m)) : Good n m (relC o ts) where
  n1 := g.n1
  n4 := g.n4
  m1 := g.m1
  m4 := g.m4
  few := by
    unfold Kx.relC
    rw [List.length_map]
    exact g.few
  th := fun t ht => by
    obtain ⟨s, hs, rfl⟩ := List.mem_map.mp ht
    exact g.th s hs
  cl := fun t ht => by
    obtain ⟨s, hs, rfl⟩ := List.mem_map.mp ht
    exact (o_idx h (g.cl s hs)).1
  nd := nodup_map_on g.nd fun x hx y hy e => by
    obtain ⟨e1, e2⟩ := Prod.mk.inj e
    exact Prod.ext e1 (by rw [← (o_idx h (g.cl x hx)).2, e2, (o_idx h (g.cl y hy)).2])
  conn := fun φ ψ e => by
    obtain ⟨h1, h2⟩ := g.conn φ (fun c => ψ (o.idxOf c)) fun t ht => e (t.1, o.idxOf t.2) (List.mem_map.mpr ⟨t, ht, rfl⟩)
    refine ⟨h1, fun j hj => ?_⟩
    obtain ⟨a, b⟩ := o_at h (List.mem_range.mp hj)
    have := h2 (o.getD j 0) (List.mem_range.mpr a)
    rw [b] at this
    exact this
theorem Good.sort {n m : Nat} {ts : List (Nat × Nat)} (g : Good n m ts) : Good n m (sortP ts) where
  n1 := g.n1
  n4 := g.n4
  m1 := g.m1
  m4 := g.m4
  few := by
    rw [(sortP_perm ts).length_eq]
    exact g.few
  th := fun t ht => g.th t ((sortP_perm ts).mem_iff.mp ht)
  cl := fun t ht => g.cl t ((sortP_perm ts).mem_iff.mp ht)
  nd := (sortP_perm ts).nodup_iff.mpr g.nd
  conn := g.conn.sub fun t ht => (sortP_perm ts).mem_iff.mpr ht
/-- the things renamed by an order -/
def relT (p : List Nat) (ts : List (Nat × Nat)) : List (Nat × Nat) := flipT (Kx.relC p (flipT ts))
theorem Good.relT {n m : Nat} {ts : List (Nat × Nat)} {p : List Nat} (g : Good n m ts) (h : p.Perm (List.range n)) : Good n m (relT p ts) := (g.flip.relC h).flip
theorem cnt_relT {n m : Nat} {ts : List (Nat × Nat)} {p : List Nat} (g : Good n m ts) (h : p.Perm (List.range n)) (k : Nat) : cnt n m (relT p ts) k = cnt n m ts k := by
  unfold Kx.relT
  rw [cnt_flip, cnt_relC h g.flip.cl, cnt_flip]
theorem mem_relT {n : Nat} {ts : List (Nat × Nat)} {p : List Nat} (h : p.Perm (List.range n)) (th : ∀ t ∈ ts, t.1 < n) {i c : Nat} (hi : i < n) : (p.idxOf i, c) ∈ relT p ts ↔ (i, c) ∈ ts := by
  unfold Kx.relT
  rw [mem_flipT]
  show (c, p.idxOf i) ∈ Kx.relC p (flipT ts) ↔ _
  rw [mem_relC h (fun t ht => th _ (mem_flipT.mp ht)) hi, mem_flipT]
theorem masks_relT {n m : Nat} {ts : List (Nat × Nat)} {p : List Nat} (h : p.Perm (List.range n)) (th : ∀ t ∈ ts, t.1 < n) : masks n m (relT p ts) = p.map (maskT m ts) := by
  obtain ⟨pl, nd, mm⟩ := perm_range_get h
  unfold masks
  conv => rhs; rw [← o_range p, pl, List.map_map]
  refine List.map_congr_left fun j hj => ?_
  obtain ⟨a, b⟩ := o_at h (List.mem_range.mp hj)
  show maskP _ m = maskP _ m
  congr 1
  funext c
  refine decide_eq_decide.mpr ?_
  have := mem_relT (c := c) h th a
  rw [b] at this
  exact this
end Kx
end
section
set_option linter.all false
/-! Crossing masks; ties counted. -/
namespace Kx
theorem maskT_lt (m : Nat) (ts : List (Nat × Nat)) (i : Nat) : maskT m ts i < 2 ^ m := maskP_lt _ m
theorem maskT_mem {m : Nat} {ts : List (Nat × Nat)} {i : Nat} {R : Nat} : maskT m ts i &&& R ≠ 0 ↔ ∃ c, c < m ∧ (i, c) ∈ ts ∧ R.testBit c = true := by
  constructor
  · intro z
    obtain ⟨c, hc⟩ := Nat.exists_testBit_of_ne_zero z
    rw [Nat.testBit_and] at hc
    obtain ⟨z1, z2⟩ := Bool.and_eq_true_iff.mp hc
    have cm : c < m := (Nat.pow_lt_pow_iff_right (by decide : 1 < 2)).mp (Nat.lt_of_le_of_lt (Nat.ge_two_pow_of_testBit z1) (maskT_lt m ts i))
    rw [maskT_bit cm] at z1
    exact ⟨c, cm, of_decide_eq_true z1, z2⟩
  · rintro ⟨c, cm, h, z⟩ e
    have : (maskT m ts i &&& R).testBit c = true := by
      rw [Nat.testBit_and, maskT_bit cm, z, decide_eq_true h]
      rfl
    rw [e, Nat.zero_testBit] at this
    cases this
theorem compl_bit {m R c : Nat} (h : R < 2 ^ m) (hc : c < m) : (2 ^ m - 1 - R).testBit c = !R.testBit c := by
  have e : 2 ^ m - 1 - R = 2 ^ m - (R + 1) := by omega
  rw [e, Nat.testBit_two_pow_sub_succ h]
  simp [hc]
theorem Good.cross {n m : Nat} {ts : List (Nat × Nat)} (g : Good n m ts) {R : Nat} (h1 : 1 ≤ R) (h2 : R ≤ 2 ^ m - 2) : ∃ i, i < n ∧ maskT m ts i &&& R ≠ 0 ∧ maskT m ts i &&& (2 ^ m - 1 - R) ≠ 0 := by
  have hR : R < 2 ^ m := by
    have := two_pos m
    omega
  apply Classical.byContradiction
  intro no
  have no : ∀ i, i < n → maskT m ts i &&& R ≠ 0 → maskT m ts i &&& (2 ^ m - 1 - R) = 0 := fun i hi a => Classical.byContradiction fun b => no ⟨i, hi, a, b⟩
  obtain ⟨_, k2⟩ := g.conn (fun i => if maskT m ts i &&& R ≠ 0 then 1 else 0) (fun c => if R.testBit c = true then 1 else 0) fun t ht => by
    have t1 := g.th t ht
    have t2 := g.cl t ht
    show (if maskT m ts t.1 &&& R ≠ 0 then 1 else 0) = if R.testBit t.2 = true then 1 else 0
    by_cases e : R.testBit t.2 = true
    · rw [if_pos e, if_pos (maskT_mem.mpr ⟨t.2, t2, ht, e⟩)]
    · rw [if_neg e, if_neg]
      intro z
      have := no t.1 t1 z
      have z2 : maskT m ts t.1 &&& (2 ^ m - 1 - R) ≠ 0 := maskT_mem.mpr ⟨t.2, t2, ht, by rw [compl_bit hR t2]; simpa using e⟩
      exact z2 this
  -- some club within, some without
  obtain ⟨c, hc⟩ := Nat.exists_testBit_of_ne_zero (x := R) (by omega)
  have cm : c < m := (Nat.pow_lt_pow_iff_right (by decide : 1 < 2)).mp (Nat.lt_of_le_of_lt (Nat.ge_two_pow_of_testBit hc) hR)
  obtain ⟨d, hd⟩ := Nat.exists_testBit_of_ne_zero (x := 2 ^ m - 1 - R) (by omega)
  have dm : d < m := (Nat.pow_lt_pow_iff_right (by decide : 1 < 2)).mp (Nat.lt_of_le_of_lt (Nat.ge_two_pow_of_testBit hd) (by have := two_pos m; omega))
  rw [compl_bit hR dm] at hd
  have a := k2 c (List.mem_range.mpr cm)
  have b := k2 d (List.mem_range.mpr dm)
  have a : (if R.testBit c = true then 1 else 0) = _ := a
  have b : (if R.testBit d = true then 1 else 0) = _ := b
  rw [if_pos hc] at a
  rw [if_neg (by simpa using hd)] at b
  exact absurd (a.trans b.symm) (by decide)
end Kx
end
section
set_option linter.all false
/-! Masks are not empty; ties counted by masks. -/
namespace Kx
theorem Good.some_tie {n m : Nat} {ts : List (Nat × Nat)} (g : Good n m ts) {i : Nat} (hi : i < n) : 1 ≤ maskT m ts i := by
  apply Classical.byContradiction
  intro no
  have z : maskT m ts i = 0 := by omega
  have no : ∀ t ∈ ts, t.1 ≠ i := fun t ht e => by
    have := maskT_bit (m := m) (ts := ts) (i := i) (g.cl t ht)
    rw [z, Nat.zero_testBit] at this
    have : (i, t.2) ∉ ts := of_decide_eq_false this.symm
    exact this (by rw [← e]; exact ht)
  obtain ⟨k1, k2⟩ := g.conn (fun x => if x = i then 1 else 0) (fun _ => 0) fun t ht => if_neg (no t ht)
  have a := k1 i (List.mem_range.mpr hi)
  have b := k2 0 (List.mem_range.mpr g.m1)
  have a : (if i = i then 1 else 0) = _ := a
  rw [if_pos rfl] at a
  have b : 0 = _ := b
  exact absurd (a.trans b.symm) (by decide)
theorem masks_map (n m : Nat) (ts : List (Nat × Nat)) : masks n m ts = (List.range n).map (maskT m ts) := rfl
theorem tieK_masks {n m : Nat} {ts : List (Nat × Nat)} (nd : ts.Nodup) (th : ∀ t ∈ ts, t.1 < n) (cl : ∀ t ∈ ts, t.2 < m) : tieK m (masks n m ts) = ts.length := by
  have p : ts.Perm ((List.range n).flatMap fun i => ((List.range m).filter (maskT m ts i).testBit).map fun c => (i, c)) := by
    refine (List.perm_ext_iff_of_nodup nd ?_).mpr fun t => ?_
    · unfold List.Nodup
      rw [List.pairwise_flatMap]
      refine ⟨fun i _ => List.Pairwise.map _ (fun a b (ne : a ≠ b) e => ne (Prod.mk.inj e).2) (List.nodup_range.filter _), List.nodup_range.imp fun {i j} ne x hx y hy e => ?_⟩
      obtain ⟨a, _, rfl⟩ := List.mem_map.mp hx
      obtain ⟨b, _, rfl⟩ := List.mem_map.mp hy
      exact ne (Prod.mk.inj e).1
    · rw [List.mem_flatMap]
      constructor
      · intro ht
        refine ⟨t.1, List.mem_range.mpr (th t ht), List.mem_map.mpr ⟨t.2, List.mem_filter.mpr ⟨List.mem_range.mpr (cl t ht), ?_⟩, rfl⟩⟩
        rw [maskT_bit (cl t ht)]
        exact decide_eq_true ht
      · rintro ⟨i, _, h⟩
        obtain ⟨c, hc, rfl⟩ := List.mem_map.mp h
        obtain ⟨h1, h2⟩ := List.mem_filter.mp hc
        rw [maskT_bit (List.mem_range.mp h1)] at h2
        exact of_decide_eq_true h2
  rw [p.length_eq, masks_map]
  unfold tieK popm
  rw [List.length_flatMap, List.map_map]
  refine congrArg List.sum (List.map_congr_left fun i _ => ?_)
  rw [List.length_map]
  rfl
end Kx
end
section
set_option linter.all false
/-! The things put in order. -/
namespace Kx
theorem asc_order (n m : Nat) (ts : List (Nat × Nat)) : ∃ p : List Nat, p.Perm (List.range n) ∧ (p.map (maskT m ts)).Pairwise (· ≤ ·) := by
  refine ⟨(List.range n).mergeSort fun i j => decide (maskT m ts i ≤ maskT m ts j), List.mergeSort_perm _ _, ?_⟩
  rw [List.pairwise_map]
  have h := List.pairwise_mergeSort (le := fun i j => decide (maskT m ts i ≤ maskT m ts j)) (fun a b c h1 h2 => by
    have h1 := of_decide_eq_true h1
    have h2 := of_decide_eq_true h2
    exact decide_eq_true (by omega)) (fun a b => by
    rw [Bool.or_eq_true]
    by_cases h : maskT m ts a ≤ maskT m ts b
    · exact .inl (decide_eq_true h)
    · exact .inr (decide_eq_true (by omega))) (List.range n)
  exact h.imp fun h => of_decide_eq_true h
/-- the check holds of a web -/
theorem Good.okB {n m : Nat} {ts : List (Nat × Nat)} (g : Good n m ts) (c : allD (okM n m (tabK n m)) n (2 ^ m - 1) [] = true) :
    ∃ p : List Nat, p.Perm (List.range n) ∧ Kx.okB n m (tabK n m) (masks n m (Kx.relT p ts)) (busyM (tabK n m) (masks n m (Kx.relT p ts))) ts.length = true := by
  obtain ⟨p, hp, so⟩ := asc_order n m ts
  refine ⟨p, hp, ?_⟩
  have gp := g.relT hp
  have em := masks_relT (m := m) hp g.th
  have ml := masks_len n m (Kx.relT p ts)
  have h := allD_ok (p := okM n m (tabK n m)) (masks n m (Kx.relT p ts)) [] (2 ^ m - 1) (by rw [ml]; exact c) (fun x hx => by
    rw [masks_map] at hx
    obtain ⟨i, hi, rfl⟩ := List.mem_map.mp hx
    have a := gp.some_tie (List.mem_range.mp hi)
    have b := maskT_lt m (Kx.relT p ts) i
    omega) (by rw [em]; exact so)
  rw [List.append_nil] at h
  unfold okM at h
  have tl : tieK m (masks n m (Kx.relT p ts)) = ts.length := by
    rw [tieK_masks gp.nd gp.th gp.cl]
    unfold Kx.relT flipT Kx.relC
    rw [List.length_map, List.length_map, List.length_map]
  rw [connK_of (full := 2 ^ m - 1) (2 ^ m - 2) fun R h1 h2 => by
    obtain ⟨i, hi, a, b⟩ := gp.cross h1 h2
    exact ⟨_, by rw [masks_map]; exact List.mem_map.mpr ⟨i, List.mem_range.mpr hi, rfl⟩, a, b⟩, tl, show Nat.ble ts.length 10 = true from Nat.ble_eq_true_of_le g.few] at h
  exact h
end Kx
end
section
set_option linter.all false
/-! Own numbers are told back by the counts. -/
namespace Kx
theorem cntM_eq {n m : Nat} {ts : List (Nat × Nat)} (g : Good n m ts) {s : Nat} (h : s ≤ 4) : cntM (tabK n m) (masks n m ts) s = cnt n m ts s := by
  rw [cnt_cntF g.th g.cl h]
  show cntF (psK m) (((List.range 5).map fun k => (comps k m).map code5).getD s []) _ s 1 = _
  rw [List.getD_eq_getElem?_getD, List.getElem?_map, List.getElem?_range (by omega)]
  rfl
theorem busyM_eq {n m : Nat} {ts : List (Nat × Nat)} (g : Good n m ts) : inwardN n m ts (List.range m) = numsF (busyM (tabK n m) (masks n m ts)) := inward_busyK g.th (by have := g.n4; omega)
theorem masks_perm {n m : Nat} {ts : List (Nat × Nat)} {p : List Nat} (h : p.Perm (List.range n)) (th : ∀ t ∈ ts, t.1 < n) : (masks n m (relT p ts)).Perm (masks n m ts) := by
  rw [masks_relT h th, masks_map]
  exact h.map _
theorem cond_t {a b : Bool} (h : cond a b false = true) : a = true ∧ b = true := by
  cases a with
  | true => exact ⟨rfl, h⟩
  | false => cases h
structure Fits (n m : Nat) (ts : List (Nat × Nat)) : Prop where
  own : asI (inwardN n m ts (List.range m)) = fromN (n + m - 1) (cnts n m ts)
  rows : shownRows n m ts ≠ []
  small : ∀ x ∈ inwardN n m ts (List.range m), x ≤ 1000
theorem Good.fits {n m : Nat} {ts : List (Nat × Nat)} (g : Good n m ts) (c : allD (okM n m (tabK n m)) n (2 ^ m - 1) [] = true) : Fits n m ts := by
  obtain ⟨p, hp, h⟩ := g.okB c
  have gp := g.relT hp
  have mp := masks_perm (m := m) hp g.th
  unfold Kx.okB at h
  cases he : (busyM (tabK n m) (masks n m (Kx.relT p ts))).isEmpty with
  | true => rw [he] at h; cases h
  | false =>
    rw [he] at h
    obtain ⟨h1, h2⟩ := cond_t h
    have h1 := Nat.le_of_ble_eq_true h1
    unfold okN at h2
    obtain ⟨h3, h4⟩ := cond_t h2
    have h3 := of_decide_eq_true h3
    have eb := busyM_perm mp (tabK n m)
    rw [eb] at h1 h3 he
    have ec : (List.range (min n m)).map (cntM (tabK n m) (masks n m (Kx.relT p ts))) = cnts n m ts := List.map_congr_left fun s hs => by
      have := List.mem_range.mp hs
      have := g.n4
      rw [cntM_eq gp (by omega), cnt_relT g hp]
    rw [ec] at h3
    refine ⟨?_, ?_, fun x hx => ?_⟩
    · rw [busyM_eq g, h3]
    · refine shown_busyK g.th (by have := g.n4; omega) fun z => ?_
      have z : busyM (tabK n m) (masks n m ts) = [] := z
      rw [z] at he
      cases he
    · rw [busyM_eq g] at hx
      obtain ⟨k, _, rfl⟩ := List.mem_map.mp hx
      exact Nat.le_trans List.count_le_length h1
end Kx
end
section
set_option linter.all false
/-! The next size; one tie more. -/
namespace Kx
theorem Good.due {n m : Nat} {ts : List (Nat × Nat)} (g : Good n m ts) (c : allD (okM n m (tabK n m)) n (2 ^ m - 1) [] = true) (few : ts.length ≤ 9) :
    (ts.length ≤ 7 ∨ min n m < 4 → loadCntI (asI (inwardN n m ts (List.range m))) (min n m) (n + m - 2) = cnt n m ts (min n m)) ∧
    ∃ p : List Nat, p.Perm (List.range n) ∧ growK (tabK n m) m (masks n m (Kx.relT p ts)) (inwardN n m ts (List.range m)) n = true := by
  obtain ⟨p, hp, h⟩ := g.okB c
  have gp := g.relT hp
  have mp := masks_perm (m := m) hp g.th
  unfold Kx.okB at h
  cases he : (busyM (tabK n m) (masks n m (Kx.relT p ts))).isEmpty with
  | true => rw [he] at h; cases h
  | false =>
    rw [he] at h
    obtain ⟨_, h2⟩ := cond_t h
    unfold okN at h2
    obtain ⟨_, h4⟩ := cond_t h2
    have eb := busyM_perm mp (tabK n m)
    rw [eb, ← busyM_eq g, show Nat.ble ts.length 9 = true from Nat.ble_eq_true_of_le few] at h4
    obtain ⟨h5, h6⟩ := cond_t (show cond (growK (tabK n m) m (masks n m (Kx.relT p ts)) (inwardN n m ts (List.range m)) n) _ false = true from h4)
    refine ⟨fun hc => ?_, p, hp, h5⟩
    have e : (Nat.ble ts.length 7 || Nat.ble (min n m) 3) = true := by
      rw [Bool.or_eq_true]
      rcases hc with hc | hc
      · exact .inl (Nat.ble_eq_true_of_le hc)
      · exact .inr (Nat.ble_eq_true_of_le (by omega))
    rw [e] at h6
    have h6 := of_decide_eq_true (show decide _ = true from h6)
    rw [h6, cntM_eq gp (by have := g.n4; omega), cnt_relT g hp]
end Kx
end
section
set_option linter.all false
/-! One tie more. -/
namespace Kx
theorem growC_ok {T : TabK} {M N : List Nat} {i u : Nat} : ∀ {m c : Nat}, growC T M N i u m = true → c < m → u.testBit c = false → leK N (numsF (busyM T (M.set i (u + 2 ^ c)))) = true
  | m + 1, c, h, hc, hb => by
    unfold growC at h
    have lp : Nat.beq (Nat.land u (2 ^ m)) 0 = !u.testBit m := by
      have := land_pow u m
      rw [← this, Bool.not_not]
    rw [lp] at h
    by_cases e : c = m
    · subst e
      rw [hb] at h
      exact (cond_t (show cond (leK N (numsF (busyM T (M.set i (Nat.add u (2 ^ c)))))) _ false = true from h)).1
    · cases hu : u.testBit m with
      | true =>
        rw [hu] at h
        exact growC_ok (m := m) h (by omega) hb
      | false =>
        rw [hu] at h
        exact growC_ok (m := m) (cond_t (show cond _ (growC T M N i u m) false = true from h)).2 (by omega) hb
theorem growK_ok {T : TabK} {m : Nat} {M N : List Nat} : ∀ {n i : Nat}, growK T m M N n = true → i < n → growC T M N i (M.getD i 0) m = true
  | n + 1, i, h, hi => by
    unfold growK at h
    obtain ⟨a, b⟩ := cond_t h
    by_cases e : i = n
    · rw [e]
      exact a
    · exact growK_ok (n := n) b (by omega)
theorem leK_ok : ∀ {a b : List Nat}, leK a b = true → a.length ≤ b.length ∧ ∀ k, k < a.length → a.getD k 0 ≤ b.getD k 0
  | [], b, _ => ⟨Nat.zero_le _, fun k h => (Nat.not_lt_zero k h).elim⟩
  | _ :: _, [], h => by cases h
  | x :: a, y :: b, h => by
    unfold leK at h
    obtain ⟨h1, h2⟩ := cond_t h
    obtain ⟨l, g⟩ := leK_ok h2
    refine ⟨by rw [List.length_cons, List.length_cons]; omega, fun k hk => ?_⟩
    cases k with
    | zero => exact Nat.le_of_ble_eq_true h1
    | succ k => exact g k (by simpa using hk)
end Kx
end
section
set_option linter.all false
namespace Kx
theorem maskP_more {S S' : Nat → Bool} {c : Nat} (h1 : ∀ x, x ≠ c → S' x = S x) (h2 : S c = false) (h3 : S' c = true) : ∀ m, maskP S' m = maskP S m + if c < m then 2 ^ c else 0
  | 0 => rfl
  | m + 1 => by
    unfold maskP
    rw [maskP_more h1 h2 h3 m]
    by_cases e : m = c
    · subst e
      rw [h2, h3]
      simp
    · rw [h1 m e]
      by_cases l : c < m
      · rw [if_pos l, if_pos (show c < m + 1 by omega)]
        omega
      · rw [if_neg l, if_neg (show ¬ c < m + 1 by omega)]
        omega
theorem maskT_more {m : Nat} {ts us : List (Nat × Nat)} {t : Nat × Nat} (hm : ∀ x, x ∈ us ↔ x ∈ ts ∨ x = t) (ht : t ∉ ts) (cl : t.2 < m) (i : Nat) : maskT m us i = if i = t.1 then maskT m ts t.1 + 2 ^ t.2 else maskT m ts i := by
  unfold maskT
  split
  · rename_i e
    subst e
    rw [maskP_more (S := fun c => decide ((t.1, c) ∈ ts)) (S' := fun c => decide ((t.1, c) ∈ us)) (c := t.2) (fun x hx => decide_eq_decide.mpr ?_) (decide_eq_false ht) (decide_eq_true ((hm _).mpr (.inr rfl))) m, if_pos cl]
    rw [hm]
    exact ⟨fun z => z.resolve_right fun e => hx (congrArg Prod.snd e), .inl⟩
  · rename_i e
    congr 1
    funext c
    refine decide_eq_decide.mpr ?_
    rw [hm]
    exact ⟨fun z => z.resolve_right fun q => e (congrArg Prod.fst q), .inl⟩
end Kx
end
section
set_option linter.all false
namespace Kx
theorem map_set_idx {p : List Nat} (nd : p.Nodup) {i : Nat} (hi : i ∈ p) (f : Nat → Nat) (v : Nat) : (p.map f).set (p.idxOf i) v = p.map fun j => if j = i then v else f j := by
  have hl : p.idxOf i < p.length := List.idxOf_lt_length_of_mem hi
  apply List.ext_getElem
  · simp
  · intro j h1 h2
    have hj : j < p.length := by simpa using h2
    rw [List.getElem_set, List.getElem_map, List.getElem_map]
    by_cases e : p.idxOf i = j
    · subst e
      rw [if_pos rfl, if_pos (List.getElem_idxOf hl)]
    · rw [if_neg e, if_neg fun z => e (by rw [← z]; exact List.Nodup.idxOf_getElem nd j hj)]
theorem Good.more {n m : Nat} {ts : List (Nat × Nat)} (g : Good n m ts) (few : ts.length ≤ 9) {t : Nat × Nat} (t1 : t.1 < n) (t2 : t.2 < m) (ht : t ∉ ts) : Good n m (ts ++ [t]) where
  n1 := g.n1
  n4 := g.n4
  m1 := g.m1
  m4 := g.m4
  few := by rw [List.length_append, List.length_singleton]; omega
  th := fun x hx => by
    rcases List.mem_append.mp hx with hx | hx
    · exact g.th x hx
    · rw [List.mem_singleton.mp hx]
      exact t1
  cl := fun x hx => by
    rcases List.mem_append.mp hx with hx | hx
    · exact g.cl x hx
    · rw [List.mem_singleton.mp hx]
      exact t2
  nd := List.nodup_append.mpr ⟨g.nd, List.nodup_cons.mpr ⟨List.not_mem_nil, List.nodup_nil⟩, fun x hx y hy e => ht (by rw [← List.mem_singleton.mp hy, ← e]; exact hx)⟩
  conn := g.conn.sub fun x hx => List.mem_append.mpr (.inl hx)
theorem Good.grows {n m : Nat} {ts : List (Nat × Nat)} (g : Good n m ts) (c : allD (okM n m (tabK n m)) n (2 ^ m - 1) [] = true) (few : ts.length ≤ 9) {t : Nat × Nat} (t1 : t.1 < n) (t2 : t.2 < m) (ht : t ∉ ts) :
    leK (inwardN n m ts (List.range m)) (inwardN n m (sortP (ts ++ [t])) (List.range m)) = true := by
  obtain ⟨_, p, hp, h⟩ := g.due c few
  obtain ⟨pl, nd, mm⟩ := perm_range_get hp
  have gu := (g.more few t1 t2 ht).sort
  have hi := o_idx hp t1
  have hM := masks_relT (m := m) hp g.th
  have e1 : (masks n m (Kx.relT p ts)).getD (p.idxOf t.1) 0 = maskT m ts t.1 := by
    rw [hM, List.getD_eq_getElem?_getD, List.getElem?_map, List.getElem?_eq_getElem (by omega)]
    show maskT m ts p[p.idxOf t.1] = _
    rw [List.getElem_idxOf]
  have key := growC_ok (growK_ok h hi.1) t2 (by rw [e1, maskT_bit t2]; exact decide_eq_false ht)
  rw [e1, hM, map_set_idx nd ((mm _).mpr t1)] at key
  have e2 : (p.map fun j => if j = t.1 then maskT m ts t.1 + 2 ^ t.2 else maskT m ts j) = p.map (maskT m (sortP (ts ++ [t]))) := List.map_congr_left fun j _ => (maskT_more (fun x => by rw [(sortP_perm _).mem_iff, List.mem_append, List.mem_singleton]) ht t2 j).symm
  rw [e2] at key
  have pm : (p.map (maskT m (sortP (ts ++ [t])))).Perm (masks n m (sortP (ts ++ [t]))) := by
    rw [masks_map]
    exact hp.map _
  rw [busyM_perm pm, ← busyM_eq gu] at key
  exact key
end Kx
end
section
set_option linter.all false
namespace Kx
def Checks : Prop := ∀ n m, 1 ≤ n → n ≤ 4 → 1 ≤ m → m ≤ 4 → allD (okM n m (tabK n m)) n (2 ^ m - 1) [] = true
theorem Drawn.good {n m : Nat} {ts : List (Nat × Nat)} (d : Drawn n m ts) : Good n m ts := ⟨d.n1, d.n4, d.m1, d.m4, by have := d.few; omega, d.th, d.cl, d.nd, d.conn⟩
theorem Good.webOk {n m : Nat} {ts : List (Nat × Nat)} (g : Good n m ts) : WebOk n m ts := ⟨g.n1, g.n4, g.m1, g.m4, by have := g.few; omega, g.th, g.cl⟩
theorem Good.webIn {n m : Nat} {ts : List (Nat × Nat)} (g : Good n m ts) : WebIn n m ts := ⟨g.n1, by have := g.n4; omega, g.m1, by have := g.m4; omega, by have := g.few; omega, g.th, g.cl, g.nd, dist_one g.n1 g.sort.th g.sort.cl g.sort.conn⟩
theorem cnts_relC {n m : Nat} {ts : List (Nat × Nat)} {o : List Nat} (g : Good n m ts) (h : o.Perm (List.range m)) : cnts n m (relC o ts) = cnts n m ts := List.map_congr_left fun k _ => cnt_relC h g.cl k
theorem Good.byOrder {n m : Nat} {ts : List (Nat × Nat)} (g : Good n m ts) (ck : Checks) {o : List Nat} (h : IsOrd m o) : asI (inwardN n m ts o) = fromN (n + m - 1) (cnts n m ts) := by
  rw [inward_byO h g.th g.cl, ((g.relC h).fits (ck n m g.n1 g.n4 g.m1 g.m4)).own, cnts_relC g h]
theorem law_all (ck : Checks) : LawAll := fun n m ts d => by
  have g := d.good
  have c := ck n m g.n1 g.n4 g.m1 g.m4
  have f := g.fits c
  have gf := g.flip.sort
  have ff := gf.fits (ck m n g.m1 g.m4 g.n1 g.n4)
  have ef : fromN (m + n - 1) (cnts m n (sortP (flipT ts))) = fromN (n + m - 1) (cnts n m ts) := by
    have e : cnts m n (sortP (flipT ts)) = cnts n m ts := by
      unfold cnts
      rw [Nat.min_comm]
      exact List.map_congr_left fun k _ => (cnt_same (fun t => (sortP_perm _).mem_iff) k).trans (cnt_flip n m ts k)
    rw [e, Nat.add_comm m n]
  refine ⟨fromN (n + m - 1) (cnts n m ts), g.webIn, d.so, ⟨d.few, g.webOk, f.rows, fun o h => g.byOrder ck h, g.flip.webIn, gf.webOk, ff.rows, fun o h => (gf.byOrder ck h).trans ef, rfl⟩, fun z hz => ?_, fun h => ?_, fun t t1 t2 ht => ?_⟩
  · rw [← f.own] at hz
    obtain ⟨x, hx, rfl⟩ := List.mem_map.mp hz
    have := f.small x hx
    omega
  · rw [← f.own]
    exact (g.due c d.few).1 h
  · have gu := (g.more d.few t1 t2 ht).sort
    have fu := gu.fits c
    have le := leK_ok (g.grows c d.few t1 t2 ht)
    refine ⟨gu.webIn, gu.few, sortP_idem _, fu.rows, fu.own, ?_, fun k hk => ?_⟩
    · rw [← f.own, ← fu.own]
      unfold asI
      rw [List.length_map, List.length_map]
      exact le.1
    · rw [← f.own] at hk ⊢
      rw [← fu.own, asI_get, asI_get]
      have := le.2 k (by unfold asI at hk; rw [List.length_map] at hk; exact hk)
      omega
end Kx
end
section
set_option Elab.async false
set_option linter.all false
set_option maxRecDepth 100000
namespace Kx
theorem upTo_s {f : Nat → Bool} {u : Nat} (a : f (u + 1) = true) (b : upTo f u = true) : upTo f (u + 1) = true := by
  show cond (f (u + 1)) (upTo f u) false = true
  rw [a]
  exact b
theorem chk11 : allD (okM 1 1 (tabK 1 1)) 1 (2 ^ 1 - 1) [] = true := by decide +kernel
theorem chk12 : allD (okM 1 2 (tabK 1 2)) 1 (2 ^ 2 - 1) [] = true := by decide +kernel
theorem chk13 : allD (okM 1 3 (tabK 1 3)) 1 (2 ^ 3 - 1) [] = true := by decide +kernel
theorem chk14 : allD (okM 1 4 (tabK 1 4)) 1 (2 ^ 4 - 1) [] = true := by decide +kernel
theorem chk21 : allD (okM 2 1 (tabK 2 1)) 2 (2 ^ 1 - 1) [] = true := by decide +kernel
theorem chk22 : allD (okM 2 2 (tabK 2 2)) 2 (2 ^ 2 - 1) [] = true := by decide +kernel
theorem chk23 : allD (okM 2 3 (tabK 2 3)) 2 (2 ^ 3 - 1) [] = true := by decide +kernel
theorem chk24 : allD (okM 2 4 (tabK 2 4)) 2 (2 ^ 4 - 1) [] = true := by decide +kernel
theorem chk31 : allD (okM 3 1 (tabK 3 1)) 3 (2 ^ 1 - 1) [] = true := by decide +kernel
theorem chk32 : allD (okM 3 2 (tabK 3 2)) 3 (2 ^ 2 - 1) [] = true := by decide +kernel
theorem chk33 : allD (okM 3 3 (tabK 3 3)) 3 (2 ^ 3 - 1) [] = true := by decide +kernel
theorem chk34_1 : allD (okM 3 4 (tabK 3 4)) 2 1 [1] = true := by decide +kernel
theorem chk34_2 : allD (okM 3 4 (tabK 3 4)) 2 2 [2] = true := by decide +kernel
theorem chk34_3 : allD (okM 3 4 (tabK 3 4)) 2 3 [3] = true := by decide +kernel
theorem chk34_4 : allD (okM 3 4 (tabK 3 4)) 2 4 [4] = true := by decide +kernel
theorem chk34_5 : allD (okM 3 4 (tabK 3 4)) 2 5 [5] = true := by decide +kernel
theorem chk34_6 : allD (okM 3 4 (tabK 3 4)) 2 6 [6] = true := by decide +kernel
theorem chk34_7 : allD (okM 3 4 (tabK 3 4)) 2 7 [7] = true := by decide +kernel
theorem chk34_8 : allD (okM 3 4 (tabK 3 4)) 2 8 [8] = true := by decide +kernel
theorem chk34_9 : allD (okM 3 4 (tabK 3 4)) 2 9 [9] = true := by decide +kernel
theorem chk34_10 : allD (okM 3 4 (tabK 3 4)) 2 10 [10] = true := by decide +kernel
theorem chk34_11 : allD (okM 3 4 (tabK 3 4)) 2 11 [11] = true := by decide +kernel
theorem chk34_12 : allD (okM 3 4 (tabK 3 4)) 2 12 [12] = true := by decide +kernel
theorem chk34_13 : allD (okM 3 4 (tabK 3 4)) 2 13 [13] = true := by decide +kernel
theorem chk34_14 : allD (okM 3 4 (tabK 3 4)) 2 14 [14] = true := by decide +kernel
theorem chk34_15 : allD (okM 3 4 (tabK 3 4)) 2 15 [15] = true := by decide +kernel
theorem chk34 : allD (okM 3 4 (tabK 3 4)) 3 (2 ^ 4 - 1) [] = true := by
  show allD (okM 3 4 (tabK 3 4)) 3 15 [] = true
  exact upTo_s chk34_15 (upTo_s chk34_14 (upTo_s chk34_13 (upTo_s chk34_12 (upTo_s chk34_11 (upTo_s chk34_10 (upTo_s chk34_9 (upTo_s chk34_8 (upTo_s chk34_7 (upTo_s chk34_6 (upTo_s chk34_5 (upTo_s chk34_4 (upTo_s chk34_3 (upTo_s chk34_2 (upTo_s chk34_1 rfl))))))))))))))
theorem chk41 : allD (okM 4 1 (tabK 4 1)) 4 (2 ^ 1 - 1) [] = true := by decide +kernel
theorem chk42 : allD (okM 4 2 (tabK 4 2)) 4 (2 ^ 2 - 1) [] = true := by decide +kernel
theorem chk43_1 : allD (okM 4 3 (tabK 4 3)) 3 1 [1] = true := by decide +kernel
theorem chk43_2 : allD (okM 4 3 (tabK 4 3)) 3 2 [2] = true := by decide +kernel
theorem chk43_3 : allD (okM 4 3 (tabK 4 3)) 3 3 [3] = true := by decide +kernel
theorem chk43_4 : allD (okM 4 3 (tabK 4 3)) 3 4 [4] = true := by decide +kernel
theorem chk43_5 : allD (okM 4 3 (tabK 4 3)) 3 5 [5] = true := by decide +kernel
theorem chk43_6 : allD (okM 4 3 (tabK 4 3)) 3 6 [6] = true := by decide +kernel
theorem chk43_7 : allD (okM 4 3 (tabK 4 3)) 3 7 [7] = true := by decide +kernel
theorem chk43 : allD (okM 4 3 (tabK 4 3)) 4 (2 ^ 3 - 1) [] = true := by
  show allD (okM 4 3 (tabK 4 3)) 4 7 [] = true
  exact upTo_s chk43_7 (upTo_s chk43_6 (upTo_s chk43_5 (upTo_s chk43_4 (upTo_s chk43_3 (upTo_s chk43_2 (upTo_s chk43_1 rfl))))))
theorem chk44_1 : allD (okM 4 4 (tabK 4 4)) 3 1 [1] = true := by decide +kernel
theorem chk44_2 : allD (okM 4 4 (tabK 4 4)) 3 2 [2] = true := by decide +kernel
theorem chk44_3 : allD (okM 4 4 (tabK 4 4)) 3 3 [3] = true := by decide +kernel
theorem chk44_4 : allD (okM 4 4 (tabK 4 4)) 3 4 [4] = true := by decide +kernel
theorem chk44_5 : allD (okM 4 4 (tabK 4 4)) 3 5 [5] = true := by decide +kernel
theorem chk44_6 : allD (okM 4 4 (tabK 4 4)) 3 6 [6] = true := by decide +kernel
theorem chk44_7 : allD (okM 4 4 (tabK 4 4)) 3 7 [7] = true := by decide +kernel
theorem chk44_8 : allD (okM 4 4 (tabK 4 4)) 3 8 [8] = true := by decide +kernel
theorem chk44_9_1 : allD (okM 4 4 (tabK 4 4)) 2 1 [1, 9] = true := by decide +kernel
theorem chk44_9_2 : allD (okM 4 4 (tabK 4 4)) 2 2 [2, 9] = true := by decide +kernel
theorem chk44_9_3 : allD (okM 4 4 (tabK 4 4)) 2 3 [3, 9] = true := by decide +kernel
theorem chk44_9_4 : allD (okM 4 4 (tabK 4 4)) 2 4 [4, 9] = true := by decide +kernel
theorem chk44_9_5 : allD (okM 4 4 (tabK 4 4)) 2 5 [5, 9] = true := by decide +kernel
theorem chk44_9_6 : allD (okM 4 4 (tabK 4 4)) 2 6 [6, 9] = true := by decide +kernel
theorem chk44_9_7 : allD (okM 4 4 (tabK 4 4)) 2 7 [7, 9] = true := by decide +kernel
theorem chk44_9_8 : allD (okM 4 4 (tabK 4 4)) 2 8 [8, 9] = true := by decide +kernel
theorem chk44_9_9 : allD (okM 4 4 (tabK 4 4)) 2 9 [9, 9] = true := by decide +kernel
theorem chk44_9 : allD (okM 4 4 (tabK 4 4)) 3 9 [9] = true := upTo_s chk44_9_9 (upTo_s chk44_9_8 (upTo_s chk44_9_7 (upTo_s chk44_9_6 (upTo_s chk44_9_5 (upTo_s chk44_9_4 (upTo_s chk44_9_3 (upTo_s chk44_9_2 (upTo_s chk44_9_1 rfl))))))))
theorem chk44_10_1 : allD (okM 4 4 (tabK 4 4)) 2 1 [1, 10] = true := by decide +kernel
theorem chk44_10_2 : allD (okM 4 4 (tabK 4 4)) 2 2 [2, 10] = true := by decide +kernel
theorem chk44_10_3 : allD (okM 4 4 (tabK 4 4)) 2 3 [3, 10] = true := by decide +kernel
theorem chk44_10_4 : allD (okM 4 4 (tabK 4 4)) 2 4 [4, 10] = true := by decide +kernel
theorem chk44_10_5 : allD (okM 4 4 (tabK 4 4)) 2 5 [5, 10] = true := by decide +kernel
theorem chk44_10_6 : allD (okM 4 4 (tabK 4 4)) 2 6 [6, 10] = true := by decide +kernel
theorem chk44_10_7 : allD (okM 4 4 (tabK 4 4)) 2 7 [7, 10] = true := by decide +kernel
theorem chk44_10_8 : allD (okM 4 4 (tabK 4 4)) 2 8 [8, 10] = true := by decide +kernel
theorem chk44_10_9 : allD (okM 4 4 (tabK 4 4)) 2 9 [9, 10] = true := by decide +kernel
theorem chk44_10_10 : allD (okM 4 4 (tabK 4 4)) 2 10 [10, 10] = true := by decide +kernel
theorem chk44_10 : allD (okM 4 4 (tabK 4 4)) 3 10 [10] = true := upTo_s chk44_10_10 (upTo_s chk44_10_9 (upTo_s chk44_10_8 (upTo_s chk44_10_7 (upTo_s chk44_10_6 (upTo_s chk44_10_5 (upTo_s chk44_10_4 (upTo_s chk44_10_3 (upTo_s chk44_10_2 (upTo_s chk44_10_1 rfl)))))))))
theorem chk44_11_1 : allD (okM 4 4 (tabK 4 4)) 2 1 [1, 11] = true := by decide +kernel
theorem chk44_11_2 : allD (okM 4 4 (tabK 4 4)) 2 2 [2, 11] = true := by decide +kernel
theorem chk44_11_3 : allD (okM 4 4 (tabK 4 4)) 2 3 [3, 11] = true := by decide +kernel
theorem chk44_11_4 : allD (okM 4 4 (tabK 4 4)) 2 4 [4, 11] = true := by decide +kernel
theorem chk44_11_5 : allD (okM 4 4 (tabK 4 4)) 2 5 [5, 11] = true := by decide +kernel
theorem chk44_11_6 : allD (okM 4 4 (tabK 4 4)) 2 6 [6, 11] = true := by decide +kernel
theorem chk44_11_7 : allD (okM 4 4 (tabK 4 4)) 2 7 [7, 11] = true := by decide +kernel
theorem chk44_11_8 : allD (okM 4 4 (tabK 4 4)) 2 8 [8, 11] = true := by decide +kernel
theorem chk44_11_9 : allD (okM 4 4 (tabK 4 4)) 2 9 [9, 11] = true := by decide +kernel
theorem chk44_11_10 : allD (okM 4 4 (tabK 4 4)) 2 10 [10, 11] = true := by decide +kernel
theorem chk44_11_11 : allD (okM 4 4 (tabK 4 4)) 2 11 [11, 11] = true := by decide +kernel
theorem chk44_11 : allD (okM 4 4 (tabK 4 4)) 3 11 [11] = true := upTo_s chk44_11_11 (upTo_s chk44_11_10 (upTo_s chk44_11_9 (upTo_s chk44_11_8 (upTo_s chk44_11_7 (upTo_s chk44_11_6 (upTo_s chk44_11_5 (upTo_s chk44_11_4 (upTo_s chk44_11_3 (upTo_s chk44_11_2 (upTo_s chk44_11_1 rfl))))))))))
theorem chk44_12_1 : allD (okM 4 4 (tabK 4 4)) 2 1 [1, 12] = true := by decide +kernel
theorem chk44_12_2 : allD (okM 4 4 (tabK 4 4)) 2 2 [2, 12] = true := by decide +kernel
theorem chk44_12_3 : allD (okM 4 4 (tabK 4 4)) 2 3 [3, 12] = true := by decide +kernel
theorem chk44_12_4 : allD (okM 4 4 (tabK 4 4)) 2 4 [4, 12] = true := by decide +kernel
theorem chk44_12_5 : allD (okM 4 4 (tabK 4 4)) 2 5 [5, 12] = true := by decide +kernel
theorem chk44_12_6 : allD (okM 4 4 (tabK 4 4)) 2 6 [6, 12] = true := by decide +kernel
theorem chk44_12_7 : allD (okM 4 4 (tabK 4 4)) 2 7 [7, 12] = true := by decide +kernel
theorem chk44_12_8 : allD (okM 4 4 (tabK 4 4)) 2 8 [8, 12] = true := by decide +kernel
theorem chk44_12_9 : allD (okM 4 4 (tabK 4 4)) 2 9 [9, 12] = true := by decide +kernel
theorem chk44_12_10 : allD (okM 4 4 (tabK 4 4)) 2 10 [10, 12] = true := by decide +kernel
theorem chk44_12_11 : allD (okM 4 4 (tabK 4 4)) 2 11 [11, 12] = true := by decide +kernel
theorem chk44_12_12 : allD (okM 4 4 (tabK 4 4)) 2 12 [12, 12] = true := by decide +kernel
theorem chk44_12 : allD (okM 4 4 (tabK 4 4)) 3 12 [12] = true := upTo_s chk44_12_12 (upTo_s chk44_12_11 (upTo_s chk44_12_10 (upTo_s chk44_12_9 (upTo_s chk44_12_8 (upTo_s chk44_12_7 (upTo_s chk44_12_6 (upTo_s chk44_12_5 (upTo_s chk44_12_4 (upTo_s chk44_12_3 (upTo_s chk44_12_2 (upTo_s chk44_12_1 rfl)))))))))))
theorem chk44_13_1 : allD (okM 4 4 (tabK 4 4)) 2 1 [1, 13] = true := by decide +kernel
theorem chk44_13_2 : allD (okM 4 4 (tabK 4 4)) 2 2 [2, 13] = true := by decide +kernel
theorem chk44_13_3 : allD (okM 4 4 (tabK 4 4)) 2 3 [3, 13] = true := by decide +kernel
theorem chk44_13_4 : allD (okM 4 4 (tabK 4 4)) 2 4 [4, 13] = true := by decide +kernel
theorem chk44_13_5 : allD (okM 4 4 (tabK 4 4)) 2 5 [5, 13] = true := by decide +kernel
theorem chk44_13_6 : allD (okM 4 4 (tabK 4 4)) 2 6 [6, 13] = true := by decide +kernel
theorem chk44_13_7 : allD (okM 4 4 (tabK 4 4)) 2 7 [7, 13] = true := by decide +kernel
theorem chk44_13_8 : allD (okM 4 4 (tabK 4 4)) 2 8 [8, 13] = true := by decide +kernel
theorem chk44_13_9 : allD (okM 4 4 (tabK 4 4)) 2 9 [9, 13] = true := by decide +kernel
theorem chk44_13_10 : allD (okM 4 4 (tabK 4 4)) 2 10 [10, 13] = true := by decide +kernel
theorem chk44_13_11 : allD (okM 4 4 (tabK 4 4)) 2 11 [11, 13] = true := by decide +kernel
theorem chk44_13_12 : allD (okM 4 4 (tabK 4 4)) 2 12 [12, 13] = true := by decide +kernel
theorem chk44_13_13 : allD (okM 4 4 (tabK 4 4)) 2 13 [13, 13] = true := by decide +kernel
theorem chk44_13 : allD (okM 4 4 (tabK 4 4)) 3 13 [13] = true := upTo_s chk44_13_13 (upTo_s chk44_13_12 (upTo_s chk44_13_11 (upTo_s chk44_13_10 (upTo_s chk44_13_9 (upTo_s chk44_13_8 (upTo_s chk44_13_7 (upTo_s chk44_13_6 (upTo_s chk44_13_5 (upTo_s chk44_13_4 (upTo_s chk44_13_3 (upTo_s chk44_13_2 (upTo_s chk44_13_1 rfl))))))))))))
theorem chk44_14_1 : allD (okM 4 4 (tabK 4 4)) 2 1 [1, 14] = true := by decide +kernel
theorem chk44_14_2 : allD (okM 4 4 (tabK 4 4)) 2 2 [2, 14] = true := by decide +kernel
theorem chk44_14_3 : allD (okM 4 4 (tabK 4 4)) 2 3 [3, 14] = true := by decide +kernel
theorem chk44_14_4 : allD (okM 4 4 (tabK 4 4)) 2 4 [4, 14] = true := by decide +kernel
theorem chk44_14_5 : allD (okM 4 4 (tabK 4 4)) 2 5 [5, 14] = true := by decide +kernel
theorem chk44_14_6 : allD (okM 4 4 (tabK 4 4)) 2 6 [6, 14] = true := by decide +kernel
theorem chk44_14_7 : allD (okM 4 4 (tabK 4 4)) 2 7 [7, 14] = true := by decide +kernel
theorem chk44_14_8 : allD (okM 4 4 (tabK 4 4)) 2 8 [8, 14] = true := by decide +kernel
theorem chk44_14_9 : allD (okM 4 4 (tabK 4 4)) 2 9 [9, 14] = true := by decide +kernel
theorem chk44_14_10 : allD (okM 4 4 (tabK 4 4)) 2 10 [10, 14] = true := by decide +kernel
theorem chk44_14_11 : allD (okM 4 4 (tabK 4 4)) 2 11 [11, 14] = true := by decide +kernel
theorem chk44_14_12 : allD (okM 4 4 (tabK 4 4)) 2 12 [12, 14] = true := by decide +kernel
theorem chk44_14_13 : allD (okM 4 4 (tabK 4 4)) 2 13 [13, 14] = true := by decide +kernel
theorem chk44_14_14 : allD (okM 4 4 (tabK 4 4)) 2 14 [14, 14] = true := by decide +kernel
theorem chk44_14 : allD (okM 4 4 (tabK 4 4)) 3 14 [14] = true := upTo_s chk44_14_14 (upTo_s chk44_14_13 (upTo_s chk44_14_12 (upTo_s chk44_14_11 (upTo_s chk44_14_10 (upTo_s chk44_14_9 (upTo_s chk44_14_8 (upTo_s chk44_14_7 (upTo_s chk44_14_6 (upTo_s chk44_14_5 (upTo_s chk44_14_4 (upTo_s chk44_14_3 (upTo_s chk44_14_2 (upTo_s chk44_14_1 rfl)))))))))))))
theorem chk44_15_1 : allD (okM 4 4 (tabK 4 4)) 2 1 [1, 15] = true := by decide +kernel
theorem chk44_15_2 : allD (okM 4 4 (tabK 4 4)) 2 2 [2, 15] = true := by decide +kernel
theorem chk44_15_3 : allD (okM 4 4 (tabK 4 4)) 2 3 [3, 15] = true := by decide +kernel
theorem chk44_15_4 : allD (okM 4 4 (tabK 4 4)) 2 4 [4, 15] = true := by decide +kernel
theorem chk44_15_5 : allD (okM 4 4 (tabK 4 4)) 2 5 [5, 15] = true := by decide +kernel
theorem chk44_15_6 : allD (okM 4 4 (tabK 4 4)) 2 6 [6, 15] = true := by decide +kernel
theorem chk44_15_7 : allD (okM 4 4 (tabK 4 4)) 2 7 [7, 15] = true := by decide +kernel
theorem chk44_15_8 : allD (okM 4 4 (tabK 4 4)) 2 8 [8, 15] = true := by decide +kernel
theorem chk44_15_9 : allD (okM 4 4 (tabK 4 4)) 2 9 [9, 15] = true := by decide +kernel
theorem chk44_15_10 : allD (okM 4 4 (tabK 4 4)) 2 10 [10, 15] = true := by decide +kernel
theorem chk44_15_11 : allD (okM 4 4 (tabK 4 4)) 2 11 [11, 15] = true := by decide +kernel
theorem chk44_15_12 : allD (okM 4 4 (tabK 4 4)) 2 12 [12, 15] = true := by decide +kernel
theorem chk44_15_13 : allD (okM 4 4 (tabK 4 4)) 2 13 [13, 15] = true := by decide +kernel
theorem chk44_15_14 : allD (okM 4 4 (tabK 4 4)) 2 14 [14, 15] = true := by decide +kernel
theorem chk44_15_15 : allD (okM 4 4 (tabK 4 4)) 2 15 [15, 15] = true := by decide +kernel
theorem chk44_15 : allD (okM 4 4 (tabK 4 4)) 3 15 [15] = true := upTo_s chk44_15_15 (upTo_s chk44_15_14 (upTo_s chk44_15_13 (upTo_s chk44_15_12 (upTo_s chk44_15_11 (upTo_s chk44_15_10 (upTo_s chk44_15_9 (upTo_s chk44_15_8 (upTo_s chk44_15_7 (upTo_s chk44_15_6 (upTo_s chk44_15_5 (upTo_s chk44_15_4 (upTo_s chk44_15_3 (upTo_s chk44_15_2 (upTo_s chk44_15_1 rfl))))))))))))))
theorem chk44 : allD (okM 4 4 (tabK 4 4)) 4 (2 ^ 4 - 1) [] = true := by
  show allD (okM 4 4 (tabK 4 4)) 4 15 [] = true
  exact upTo_s chk44_15 (upTo_s chk44_14 (upTo_s chk44_13 (upTo_s chk44_12 (upTo_s chk44_11 (upTo_s chk44_10 (upTo_s chk44_9 (upTo_s chk44_8 (upTo_s chk44_7 (upTo_s chk44_6 (upTo_s chk44_5 (upTo_s chk44_4 (upTo_s chk44_3 (upTo_s chk44_2 (upTo_s chk44_1 rfl))))))))))))))
theorem checks : Checks := fun n m n1 n4 m1 m4 => by
  match n, m, n1, n4, m1, m4 with
  | 1, 1, _, _, _, _ => exact chk11
  | 1, 2, _, _, _, _ => exact chk12
  | 1, 3, _, _, _, _ => exact chk13
  | 1, 4, _, _, _, _ => exact chk14
  | 2, 1, _, _, _, _ => exact chk21
  | 2, 2, _, _, _, _ => exact chk22
  | 2, 3, _, _, _, _ => exact chk23
  | 2, 4, _, _, _, _ => exact chk24
  | 3, 1, _, _, _, _ => exact chk31
  | 3, 2, _, _, _, _ => exact chk32
  | 3, 3, _, _, _, _ => exact chk33
  | 3, 4, _, _, _, _ => exact chk34
  | 4, 1, _, _, _, _ => exact chk41
  | 4, 2, _, _, _, _ => exact chk42
  | 4, 3, _, _, _, _ => exact chk43
  | 4, 4, _, _, _, _ => exact chk44
theorem lawAll : LawAll := law_all checks
end Kx
end
section
set_option Elab.async false
set_option linter.all false
set_option maxRecDepth 100000
set_option maxHeartbeats 4000000
namespace Kx
open PySem PySem.Spec L2
open PyProof.Rows (envOfC)
theorem all_mk {l : PySem.W.OpenLaw} {w : World} {K : PySem.W.Frag} {h : Heap} {mg : Str → Option Value} {fa C TW f1 f2 f3 f4 f5 f6 f7 f8 f9 f10 f11 f12 f13 f14 f15 f16 f17 f18 f19 f20 f21 f22 f23 f24 f25 f26 f27 f28 f29 f30 f31 f32 f33 f34 f35 f36 f37 f38 f39 f40 f41 f42 f43 f44 f45 f46 f47 : Addr} (X : K.In h) (G : h.Ns mainGlobals mg) (hfa : mg "law" = some (.ref fa))
    {od1 an1 od2 an2 od3 an3 od4 an4 od5 an5 od6 an6 od7 an7 od8 an8 od9 an9 od10 an10 od11 an11 od12 an12 od13 an13 od14 an14 od15 an15 od16 an16 od17 an17 od18 an18 od19 an19 od20 an20 od21 an21 od22 an22 od23 an23 od24 an24 od25 an25 od26 an26 od27 an27 od28 an28 od29 an29 od30 an30 od31 an31 od32 an32 od33 an33 od34 an34 od35 an35 od36 an36 od37 an37 od38 an38 od39 an39 od40 an40 od41 an41 od42 an42 od43 an43 od44 an44 od45 an45 od46 an46 od47 an47 odT : Option Addr} {sl1 sl2 sl3 sl4 sl5 sl6 sl7 sl8 sl9 sl10 sl11 sl12 sl13 sl14 sl15 sl16 sl17 sl18 sl19 sl20 sl21 sl22 sl23 sl24 sl25 sl26 sl27 sl28 sl29 sl30 sl31 sl32 sl33 sl34 sl35 sl36 sl37 sl38 sl39 sl40 sl41 sl42 sl43 sl44 sl45 sl46 sl47 slT : Array (Option Value)} {oc1 kV1 dc1 pm1 cd1 ct1 oc2 kV2 dc2 pm2 cd2 ct2 oc3 kV3 dc3 pm3 cd3 ct3 oc4 kV4 dc4 pm4 cd4 ct4 oc5 kV5 dc5 pm5 cd5 ct5 oc6 kV6 dc6 pm6 cd6 ct6 oc7 kV7 dc7 pm7 cd7 ct7 oc8 kV8 dc8 pm8 cd8 ct8 oc9 kV9 dc9 pm9 cd9 ct9 oc10 kV10 dc10 pm10 cd10 ct10 oc11 kV11 dc11 pm11 cd11 ct11 oc12 kV12 dc12 pm12 cd12 ct12 oc13 kV13 dc13 pm13 cd13 ct13 oc14 kV14 dc14 pm14 cd14 ct14 oc15 kV15 dc15 pm15 cd15 ct15 oc16 kV16 dc16 pm16 cd16 ct16 oc17 kV17 dc17 pm17 cd17 ct17 oc18 kV18 dc18 pm18 cd18 ct18 oc19 kV19 dc19 pm19 cd19 ct19 oc20 kV20 dc20 pm20 cd20 ct20 oc21 kV21 dc21 pm21 cd21 ct21 oc22 kV22 dc22 pm22 cd22 ct22 oc23 kV23 dc23 pm23 cd23 ct23 oc24 kV24 dc24 pm24 cd24 ct24 oc25 kV25 dc25 pm25 cd25 ct25 oc26 kV26 dc26 pm26 cd26 ct26 oc27 kV27 dc27 pm27 cd27 ct27 oc28 kV28 dc28 pm28 cd28 ct28 oc29 kV29 dc29 pm29 cd29 ct29 oc30 kV30 dc30 pm30 cd30 ct30 oc31 kV31 dc31 pm31 cd31 ct31 oc32 kV32 dc32 pm32 cd32 ct32 oc33 kV33 dc33 pm33 cd33 ct33 oc34 kV34 dc34 pm34 cd34 ct34 oc35 kV35 dc35 pm35 cd35 ct35 oc36 kV36 dc36 pm36 cd36 ct36 oc37 kV37 dc37 pm37 cd37 ct37 oc38 kV38 dc38 pm38 cd38 ct38 oc39 kV39 dc39 pm39 cd39 ct39 oc40 kV40 dc40 pm40 cd40 ct40 oc41 kV41 dc41 pm41 cd41 ct41 oc42 kV42 dc42 pm42 cd42 ct42 oc43 kV43 dc43 pm43 cd43 ct43 oc44 kV44 dc44 pm44 cd44 ct44 oc45 kV45 dc45 pm45 cd45 ct45 oc46 kV46 dc46 pm46 cd46 ct46 oc47 kV47 dc47 pm47 cd47 ct47 ocT : Value} {nT0 : Nat}
    (aC : PySem.W.nsIn K mainGlobals "Web" = some (some (.ref C)))
    (a1 : PySem.W.nsIn K mainGlobals "choose_count" = some (some (.ref f1)))
    (l1 : K.lookup f1 = some ⟨oc1, od1, .func (PySem.W.fnOf "choose_count" "choose_count" (defArgs s_choose_count) (defBody s_choose_count) (defScope s_choose_count) .none kV1 dc1 pm1 an1 cd1 ct1), sl1⟩)
    (c1 : PySem.W.codeIn K cd1 "choose_count" = true)
    (k1 : PySem.W.keepIn K (.ref f1) = true)
    (a2 : PySem.W.nsIn K mainGlobals "own_order" = some (some (.ref f2)))
    (l2 : K.lookup f2 = some ⟨oc2, od2, .func (PySem.W.fnOf "own_order" "own_order" (defArgs s_own_order) (defBody s_own_order) (defScope s_own_order) .none kV2 dc2 pm2 an2 cd2 ct2), sl2⟩)
    (c2 : PySem.W.codeIn K cd2 "own_order" = true)
    (k2 : PySem.W.keepIn K (.ref f2) = true)
    (a3 : PySem.W.nsIn K mainGlobals "thing_counts" = some (some (.ref f3)))
    (l3 : K.lookup f3 = some ⟨oc3, od3, .func (PySem.W.fnOf "thing_counts" "thing_counts" (defArgs s_thing_counts) (defBody s_thing_counts) (defScope s_thing_counts) .none kV3 dc3 pm3 an3 cd3 ct3), sl3⟩)
    (c3 : PySem.W.codeIn K cd3 "thing_counts" = true)
    (k3 : PySem.W.keepIn K (.ref f3) = true)
    (a4 : PySem.W.nsIn K mainGlobals "sums_with" = some (some (.ref f4)))
    (l4 : K.lookup f4 = some ⟨oc4, od4, .func (PySem.W.fnOf "sums_with" "sums_with" (defArgs s_sums_with) (defBody s_sums_with) (defScope s_sums_with) .none kV4 dc4 pm4 an4 cd4 ct4), sl4⟩)
    (c4 : PySem.W.codeIn K cd4 "sums_with" = true)
    (k4 : PySem.W.keepIn K (.ref f4) = true)
    (a5 : PySem.W.nsIn K mainGlobals "is_within" = some (some (.ref f5)))
    (l5 : K.lookup f5 = some ⟨oc5, od5, .func (PySem.W.fnOf "is_within" "is_within" (defArgs s_is_within) (defBody s_is_within) (defScope s_is_within) .none kV5 dc5 pm5 an5 cd5 ct5), sl5⟩)
    (c5 : PySem.W.codeIn K cd5 "is_within" = true)
    (k5 : PySem.W.keepIn K (.ref f5) = true)
    (a6 : PySem.W.nsIn K mainGlobals "_law_stir" = some (some (.ref f6)))
    (l6 : K.lookup f6 = some ⟨oc6, od6, .func (PySem.W.fnOf "_law_stir" "_law_stir" (defArgs s__law_stir) (defBody s__law_stir) (defScope s__law_stir) .none kV6 dc6 pm6 an6 cd6 ct6), sl6⟩)
    (c6 : PySem.W.codeIn K cd6 "_law_stir" = true)
    (k6 : PySem.W.keepIn K (.ref f6) = true)
    (a7 : PySem.W.nsIn K mainGlobals "_law_whole" = some (some (.ref f7)))
    (l7 : K.lookup f7 = some ⟨oc7, od7, .func (PySem.W.fnOf "_law_whole" "_law_whole" (defArgs s__law_whole) (defBody s__law_whole) (defScope s__law_whole) .none kV7 dc7 pm7 an7 cd7 ct7), sl7⟩)
    (c7 : PySem.W.codeIn K cd7 "_law_whole" = true)
    (k7 : PySem.W.keepIn K (.ref f7) = true)
    (a8 : PySem.W.nsIn K mainGlobals "_law_hand" = some (some (.ref f8)))
    (l8 : K.lookup f8 = some ⟨oc8, od8, .func (PySem.W.fnOf "_law_hand" "_law_hand" (defArgs s__law_hand) (defBody s__law_hand) (defScope s__law_hand) .none kV8 dc8 pm8 an8 cd8 ct8), sl8⟩)
    (c8 : PySem.W.codeIn K cd8 "_law_hand" = true)
    (k8 : PySem.W.keepIn K (.ref f8) = true)
    (a9 : PySem.W.nsIn K mainGlobals "_law_choose" = some (some (.ref f9)))
    (l9 : K.lookup f9 = some ⟨oc9, od9, .func (PySem.W.fnOf "_law_choose" "_law_choose" (defArgs s__law_choose) (defBody s__law_choose) (defScope s__law_choose) .none kV9 dc9 pm9 an9 cd9 ct9), sl9⟩)
    (c9 : PySem.W.codeIn K cd9 "_law_choose" = true)
    (k9 : PySem.W.keepIn K (.ref f9) = true)
    (a10 : PySem.W.nsIn K mainGlobals "_law_more" = some (some (.ref f10)))
    (l10 : K.lookup f10 = some ⟨oc10, od10, .func (PySem.W.fnOf "_law_more" "_law_more" (defArgs s__law_more) (defBody s__law_more) (defScope s__law_more) .none kV10 dc10 pm10 an10 cd10 ct10), sl10⟩)
    (c10 : PySem.W.codeIn K cd10 "_law_more" = true)
    (k10 : PySem.W.keepIn K (.ref f10) = true)
    (a11 : PySem.W.nsIn K mainGlobals "is_whole" = some (some (.ref f11)))
    (l11 : K.lookup f11 = some ⟨oc11, od11, .func (PySem.W.fnOf "is_whole" "is_whole" (defPars s_is_whole) (defBody s_is_whole) (defScope s_is_whole) (.ref TW) kV11 dc11 pm11 an11 cd11 ct11), sl11⟩)
    (lT : K.lookup TW = some ⟨ocT, odT, .seq #[.none, .none] nT0, slT⟩)
    (c11 : PySem.W.codeIn K cd11 "is_whole" = true)
    (k11 : PySem.W.keepIn K (.ref f11) = true)
    (a12 : PySem.W.nsIn K mainGlobals "is_sequence" = some (some (.ref f12)))
    (l12 : K.lookup f12 = some ⟨oc12, od12, .func (PySem.W.fnOf "is_sequence" "is_sequence" (defArgs s_is_sequence) (defBody s_is_sequence) (defScope s_is_sequence) .none kV12 dc12 pm12 an12 cd12 ct12), sl12⟩)
    (c12 : PySem.W.codeIn K cd12 "is_sequence" = true)
    (k12 : PySem.W.keepIn K (.ref f12) = true)
    (a13 : PySem.W.nsIn K mainGlobals "row_handed" = some (some (.ref f13)))
    (l13 : K.lookup f13 = some ⟨oc13, od13, .func (PySem.W.fnOf "row_handed" "row_handed" (defArgs s_row_handed) (defBody s_row_handed) (defScope s_row_handed) .none kV13 dc13 pm13 an13 cd13 ct13), sl13⟩)
    (c13 : PySem.W.codeIn K cd13 "row_handed" = true)
    (k13 : PySem.W.keepIn K (.ref f13) = true)
    (a14 : PySem.W.nsIn K mainGlobals "table_of" = some (some (.ref f14)))
    (l14 : K.lookup f14 = some ⟨oc14, od14, .func (PySem.W.fnOf "table_of" "table_of" (defArgs s_table_of) (defBody s_table_of) (defScope s_table_of) .none kV14 dc14 pm14 an14 cd14 ct14), sl14⟩)
    (c14 : PySem.W.codeIn K cd14 "table_of" = true)
    (k14 : PySem.W.keepIn K (.ref f14) = true)
    (a15 : PySem.W.nsIn K mainGlobals "numbers_from" = some (some (.ref f15)))
    (l15 : K.lookup f15 = some ⟨oc15, od15, .func (PySem.W.fnOf "numbers_from" "numbers_from" (defArgs s_numbers_from) (defBody s_numbers_from) (defScope s_numbers_from) .none kV15 dc15 pm15 an15 cd15 ct15), sl15⟩)
    (c15 : PySem.W.codeIn K cd15 "numbers_from" = true)
    (k15 : PySem.W.keepIn K (.ref f15) = true)
    (a16 : PySem.W.nsIn K mainGlobals "check_order" = some (some (.ref f16)))
    (l16 : K.lookup f16 = some ⟨oc16, od16, .func (PySem.W.fnOf "check_order" "check_order" (defArgs s_check_order) (defBody s_check_order) (defScope s_check_order) .none kV16 dc16 pm16 an16 cd16 ct16), sl16⟩)
    (c16 : PySem.W.codeIn K cd16 "check_order" = true)
    (k16 : PySem.W.keepIn K (.ref f16) = true)
    (a17 : PySem.W.nsIn K mainGlobals "count_pieces" = some (some (.ref f17)))
    (l17 : K.lookup f17 = some ⟨oc17, od17, .func (PySem.W.fnOf "count_pieces" "count_pieces" (defArgs s_count_pieces) (defBody s_count_pieces) (defScope s_count_pieces) .none kV17 dc17 pm17 an17 cd17 ct17), sl17⟩)
    (c17 : PySem.W.codeIn K cd17 "count_pieces" = true)
    (k17 : PySem.W.keepIn K (.ref f17) = true)
    (a18 : PySem.W.nsIn K mainGlobals "one_more" = some (some (.ref f18)))
    (l18 : K.lookup f18 = some ⟨oc18, od18, .func (PySem.W.fnOf "one_more" "one_more" (defArgs s_one_more) (defBody s_one_more) (defScope s_one_more) .none kV18 dc18 pm18 an18 cd18 ct18), sl18⟩)
    (c18 : PySem.W.codeIn K cd18 "one_more" = true)
    (k18 : PySem.W.keepIn K (.ref f18) = true)
    (a19 : PySem.W.nsIn K mainGlobals "free_size" = some (some (.ref f19)))
    (l19 : K.lookup f19 = some ⟨oc19, od19, .func (PySem.W.fnOf "free_size" "free_size" (defArgs s_free_size) (defBody s_free_size) (defScope s_free_size) .none kV19 dc19 pm19 an19 cd19 ct19), sl19⟩)
    (c19 : PySem.W.codeIn K cd19 "free_size" = true)
    (k19 : PySem.W.keepIn K (.ref f19) = true)
    (a20 : PySem.W.nsIn K mainGlobals "check_club" = some (some (.ref f20)))
    (l20 : K.lookup f20 = some ⟨oc20, od20, .func (PySem.W.fnOf "check_club" "check_club" (defArgs s_check_club) (defBody s_check_club) (defScope s_check_club) .none kV20 dc20 pm20 an20 cd20 ct20), sl20⟩)
    (c20 : PySem.W.codeIn K cd20 "check_club" = true)
    (k20 : PySem.W.keepIn K (.ref f20) = true)
    (a21 : PySem.W.nsIn K mainGlobals "_law_take" = some (some (.ref f21)))
    (l21 : K.lookup f21 = some ⟨oc21, od21, .func (PySem.W.fnOf "_law_take" "_law_take" (defArgs s__law_take) (defBody s__law_take) (defScope s__law_take) .none kV21 dc21 pm21 an21 cd21 ct21), sl21⟩)
    (c21 : PySem.W.codeIn K cd21 "_law_take" = true)
    (k21 : PySem.W.keepIn K (.ref f21) = true)
    (a22 : PySem.W.nsIn K mainGlobals "_law_exact" = some (some (.ref f22)))
    (l22 : K.lookup f22 = some ⟨oc22, od22, .func (PySem.W.fnOf "_law_exact" "_law_exact" (defArgs s__law_exact) (defBody s__law_exact) (defScope s__law_exact) .none kV22 dc22 pm22 an22 cd22 ct22), sl22⟩)
    (c22 : PySem.W.codeIn K cd22 "_law_exact" = true)
    (k22 : PySem.W.keepIn K (.ref f22) = true)
    (a23 : PySem.W.nsIn K mainGlobals "_law_back" = some (some (.ref f23)))
    (l23 : K.lookup f23 = some ⟨oc23, od23, .func (PySem.W.fnOf "_law_back" "_law_back" (defArgs s__law_back) (defBody s__law_back) (defScope s__law_back) .none kV23 dc23 pm23 an23 cd23 ct23), sl23⟩)
    (c23 : PySem.W.codeIn K cd23 "_law_back" = true)
    (k23 : PySem.W.keepIn K (.ref f23) = true)
    (a24 : PySem.W.nsIn K mainGlobals "_law_by_formula" = some (some (.ref f24)))
    (l24 : K.lookup f24 = some ⟨oc24, od24, .func (PySem.W.fnOf "_law_by_formula" "_law_by_formula" (defArgs s__law_by_formula) (defBody s__law_by_formula) (defScope s__law_by_formula) .none kV24 dc24 pm24 an24 cd24 ct24), sl24⟩)
    (c24 : PySem.W.codeIn K cd24 "_law_by_formula" = true)
    (k24 : PySem.W.keepIn K (.ref f24) = true)
    (a25 : PySem.W.nsIn K mainGlobals "_law_loads" = some (some (.ref f25)))
    (l25 : K.lookup f25 = some ⟨oc25, od25, .func (PySem.W.fnOf "_law_loads" "_law_loads" (defArgs s__law_loads) (defBody s__law_loads) (defScope s__law_loads) .none kV25 dc25 pm25 an25 cd25 ct25), sl25⟩)
    (c25 : PySem.W.codeIn K cd25 "_law_loads" = true)
    (k25 : PySem.W.keepIn K (.ref f25) = true)
    (a26 : PySem.W.nsIn K mainGlobals "longer_rows" = some (some (.ref f26)))
    (l26 : K.lookup f26 = some ⟨oc26, od26, .func (PySem.W.fnOf "longer_rows" "longer_rows" (defArgs s_longer_rows) (defBody s_longer_rows) (defScope s_longer_rows) .none kV26 dc26 pm26 an26 cd26 ct26), sl26⟩)
    (c26 : PySem.W.codeIn K cd26 "longer_rows" = true)
    (k26 : PySem.W.keepIn K (.ref f26) = true)
    (a27 : PySem.W.nsIn K mainGlobals "is_couple" = some (some (.ref f27)))
    (l27 : K.lookup f27 = some ⟨oc27, od27, .func (PySem.W.fnOf "is_couple" "is_couple" (defArgs s_is_couple) (defBody s_is_couple) (defScope s_is_couple) .none kV27 dc27 pm27 an27 cd27 ct27), sl27⟩)
    (c27 : PySem.W.codeIn K cd27 "is_couple" = true)
    (k27 : PySem.W.keepIn K (.ref f27) = true)
    (a28 : PySem.W.nsIn K mainGlobals "busy_among" = some (some (.ref f28)))
    (l28 : K.lookup f28 = some ⟨oc28, od28, .func (PySem.W.fnOf "busy_among" "busy_among" (defArgs s_busy_among) (defBody s_busy_among) (defScope s_busy_among) .none kV28 dc28 pm28 an28 cd28 ct28), sl28⟩)
    (c28 : PySem.W.codeIn K cd28 "busy_among" = true)
    (k28 : PySem.W.keepIn K (.ref f28) = true)
    (a29 : PySem.W.nsIn K mainGlobals "is_number_row" = some (some (.ref f29)))
    (l29 : K.lookup f29 = some ⟨oc29, od29, .func (PySem.W.fnOf "is_number_row" "is_number_row" (defArgs s_is_number_row) (defBody s_is_number_row) (defScope s_is_number_row) .none kV29 dc29 pm29 an29 cd29 ct29), sl29⟩)
    (c29 : PySem.W.codeIn K cd29 "is_number_row" = true)
    (k29 : PySem.W.keepIn K (.ref f29) = true)
    (a30 : PySem.W.nsIn K mainGlobals "check_many" = some (some (.ref f30)))
    (l30 : K.lookup f30 = some ⟨oc30, od30, .func (PySem.W.fnOf "check_many" "check_many" (defArgs s_check_many) (defBody s_check_many) (defScope s_check_many) .none kV30 dc30 pm30 an30 cd30 ct30), sl30⟩)
    (c30 : PySem.W.codeIn K cd30 "check_many" = true)
    (k30 : PySem.W.keepIn K (.ref f30) = true)
    (a31 : PySem.W.nsIn K mainGlobals "things_of" = some (some (.ref f31)))
    (l31 : K.lookup f31 = some ⟨oc31, od31, .func (PySem.W.fnOf "things_of" "things_of" (defArgs s_things_of) (defBody s_things_of) (defScope s_things_of) .none kV31 dc31 pm31 an31 cd31 ct31), sl31⟩)
    (c31 : PySem.W.codeIn K cd31 "things_of" = true)
    (k31 : PySem.W.keepIn K (.ref f31) = true)
    (a32 : PySem.W.nsIn K mainGlobals "inward_from" = some (some (.ref f32)))
    (l32 : K.lookup f32 = some ⟨oc32, od32, .func (PySem.W.fnOf "inward_from" "inward_from" (defArgs s_inward_from) (defBody s_inward_from) (defScope s_inward_from) .none kV32 dc32 pm32 an32 cd32 ct32), sl32⟩)
    (c32 : PySem.W.codeIn K cd32 "inward_from" = true)
    (k32 : PySem.W.keepIn K (.ref f32) = true)
    (a33 : PySem.W.nsIn K mainGlobals "_law_size" = some (some (.ref f33)))
    (l33 : K.lookup f33 = some ⟨oc33, od33, .func (PySem.W.fnOf "_law_size" "_law_size" (defArgs s__law_size) (defBody s__law_size) (defScope s__law_size) .none kV33 dc33 pm33 an33 cd33 ct33), sl33⟩)
    (c33 : PySem.W.codeIn K cd33 "_law_size" = true)
    (k33 : PySem.W.keepIn K (.ref f33) = true)
    (a34 : PySem.W.nsIn K mainGlobals "_law_order" = some (some (.ref f34)))
    (l34 : K.lookup f34 = some ⟨oc34, od34, .func (PySem.W.fnOf "_law_order" "_law_order" (defArgs s__law_order) (defBody s__law_order) (defScope s__law_order) .none kV34 dc34 pm34 an34 cd34 ct34), sl34⟩)
    (c34 : PySem.W.codeIn K cd34 "_law_order" = true)
    (k34 : PySem.W.keepIn K (.ref f34) = true)
    (a35 : PySem.W.nsIn K mainGlobals "all_loads" = some (some (.ref f35)))
    (l35 : K.lookup f35 = some ⟨oc35, od35, .func (PySem.W.fnOf "all_loads" "all_loads" (defArgs s_all_loads) (defBody s_all_loads) (defScope s_all_loads) .none kV35 dc35 pm35 an35 cd35 ct35), sl35⟩)
    (c35 : PySem.W.codeIn K cd35 "all_loads" = true)
    (k35 : PySem.W.keepIn K (.ref f35) = true)
    (a36 : PySem.W.nsIn K mainGlobals "_law_by_loads" = some (some (.ref f36)))
    (l36 : K.lookup f36 = some ⟨oc36, od36, .func (PySem.W.fnOf "_law_by_loads" "_law_by_loads" (defArgs s__law_by_loads) (defBody s__law_by_loads) (defScope s__law_by_loads) .none kV36 dc36 pm36 an36 cd36 ct36), sl36⟩)
    (c36 : PySem.W.codeIn K cd36 "_law_by_loads" = true)
    (k36 : PySem.W.keepIn K (.ref f36) = true)
    (a37 : PySem.W.findIn K (.ref C) "__init__" = some (some (.ref f37)))
    (i37 : PySem.W.isFn K (.ref f37) = true)
    (l37 : K.lookup f37 = some ⟨oc37, od37, .func (PySem.W.fnOf "__init__" "Web.__init__" (defArgs s_Web_init) (defBody s_Web_init) (defScope s_Web_init) .none kV37 dc37 pm37 an37 cd37 ct37), sl37⟩)
    (c37 : PySem.W.codeIn K cd37 "Web.__init__" = true)
    (k37 : PySem.W.keepIn K (.ref f37) = true)
    (a38 : PySem.W.nsIn K mainGlobals "_law_web" = some (some (.ref f38)))
    (l38 : K.lookup f38 = some ⟨oc38, od38, .func (PySem.W.fnOf "_law_web" "_law_web" (defArgs s__law_web) (defBody s__law_web) (defScope s__law_web) .none kV38 dc38 pm38 an38 cd38 ct38), sl38⟩)
    (c38 : PySem.W.codeIn K cd38 "_law_web" = true)
    (k38 : PySem.W.keepIn K (.ref f38) = true)
    (a39 : PySem.W.nsIn K mainGlobals "held_counts" = some (some (.ref f39)))
    (l39 : K.lookup f39 = some ⟨oc39, od39, .func (PySem.W.fnOf "held_counts" "held_counts" (defArgs s_held_counts) (defBody s_held_counts) (defScope s_held_counts) .none kV39 dc39 pm39 an39 cd39 ct39), sl39⟩)
    (c39 : PySem.W.codeIn K cd39 "held_counts" = true)
    (k39 : PySem.W.keepIn K (.ref f39) = true)
    (a40 : PySem.W.nsIn K mainGlobals "shown_rows" = some (some (.ref f40)))
    (l40 : K.lookup f40 = some ⟨oc40, od40, .func (PySem.W.fnOf "shown_rows" "shown_rows" (defArgs s_shown_rows) (defBody s_shown_rows) (defScope s_shown_rows) .none kV40 dc40 pm40 an40 cd40 ct40), sl40⟩)
    (c40 : PySem.W.codeIn K cd40 "shown_rows" = true)
    (k40 : PySem.W.keepIn K (.ref f40) = true)
    (a41 : PySem.W.nsIn K mainGlobals "turned_over" = some (some (.ref f41)))
    (l41 : K.lookup f41 = some ⟨oc41, od41, .func (PySem.W.fnOf "turned_over" "turned_over" (defArgs s_turned_over) (defBody s_turned_over) (defScope s_turned_over) .none kV41 dc41 pm41 an41 cd41 ct41), sl41⟩)
    (c41 : PySem.W.codeIn K cd41 "turned_over" = true)
    (k41 : PySem.W.keepIn K (.ref f41) = true)
    (a42 : PySem.W.nsIn K mainGlobals "inward_by" = some (some (.ref f42)))
    (l42 : K.lookup f42 = some ⟨oc42, od42, .func (PySem.W.fnOf "inward_by" "inward_by" (defArgs s_inward_by) (defBody s_inward_by) (defScope s_inward_by) .none kV42 dc42 pm42 an42 cd42 ct42), sl42⟩)
    (c42 : PySem.W.codeIn K cd42 "inward_by" = true)
    (k42 : PySem.W.keepIn K (.ref f42) = true)
    (a43 : PySem.W.nsIn K mainGlobals "inward_of" = some (some (.ref f43)))
    (l43 : K.lookup f43 = some ⟨oc43, od43, .func (PySem.W.fnOf "inward_of" "inward_of" (defArgs s_inward_of) (defBody s_inward_of) (defScope s_inward_of) .none kV43 dc43 pm43 an43 cd43 ct43), sl43⟩)
    (c43 : PySem.W.codeIn K cd43 "inward_of" = true)
    (k43 : PySem.W.keepIn K (.ref f43) = true)
    (a44 : PySem.W.nsIn K mainGlobals "thing_inward" = some (some (.ref f44)))
    (l44 : K.lookup f44 = some ⟨oc44, od44, .func (PySem.W.fnOf "thing_inward" "thing_inward" (defArgs s_thing_inward) (defBody s_thing_inward) (defScope s_thing_inward) .none kV44 dc44 pm44 an44 cd44 ct44), sl44⟩)
    (c44 : PySem.W.codeIn K cd44 "thing_inward" = true)
    (k44 : PySem.W.keepIn K (.ref f44) = true)
    (a45 : PySem.W.nsIn K mainGlobals "load_count" = some (some (.ref f45)))
    (l45 : K.lookup f45 = some ⟨oc45, od45, .func (PySem.W.fnOf "load_count" "load_count" (defArgs s_load_count) (defBody s_load_count) (defScope s_load_count) .none kV45 dc45 pm45 an45 cd45 ct45), sl45⟩)
    (c45 : PySem.W.codeIn K cd45 "load_count" = true)
    (k45 : PySem.W.keepIn K (.ref f45) = true)
    (a46 : PySem.W.nsIn K mainGlobals "_law_asked" = some (some (.ref f46)))
    (l46 : K.lookup f46 = some ⟨oc46, od46, .func (PySem.W.fnOf "_law_asked" "_law_asked" (defArgs s__law_asked) (defBody s__law_asked) (defScope s__law_asked) .none kV46 dc46 pm46 an46 cd46 ct46), sl46⟩)
    (c46 : PySem.W.codeIn K cd46 "_law_asked" = true)
    (k46 : PySem.W.keepIn K (.ref f46) = true)
    (a47 : PySem.W.nsIn K mainGlobals "law" = some (some (.ref f47)))
    (l47 : K.lookup f47 = some ⟨oc47, od47, .func (PySem.W.fnOf "law" "law" (defArgs s_law) (defBody s_law) (defScope s_law) .none kV47 dc47 pm47 an47 cd47 ct47), sl47⟩)
    (c47 : PySem.W.codeIn K cd47 "law" = true)
    (k47 : PySem.W.keepIn K (.ref f47) = true)
    (pgC : PySem.W.plainGet K C Str.empty = true)
    (hdC : PySem.W.hasDictIn K C = true)
    (poC : PySem.W.plainOver K C = true)
    (saC : PySem.W.findIn K (.ref C) "__setattr__" = some (some (.builtin "object.__setattr__")))
    (mkC : PySem.W.makesIn K C = true)
    (kcC : PySem.W.keepIn K (.ref C) = true)
    (n1 : PySem.W.findIn K (.ref C) "things" = some none)
    (n2 : PySem.W.findIn K (.ref C) "clubs" = some none)
    (n3 : PySem.W.findIn K (.ref C) "ties" = some none)
    (z_abs : PySem.W.nsIn K mainGlobals "abs" = some none)
    (z_all : PySem.W.nsIn K mainGlobals "all" = some none)
    (z_bool : PySem.W.nsIn K mainGlobals "bool" = some none)
    (z_enumerate : PySem.W.nsIn K mainGlobals "enumerate" = some none)
    (z_int : PySem.W.nsIn K mainGlobals "int" = some none)
    (z_isinstance : PySem.W.nsIn K mainGlobals "isinstance" = some none)
    (z_len : PySem.W.nsIn K mainGlobals "len" = some none)
    (z_list : PySem.W.nsIn K mainGlobals "list" = some none)
    (z_max : PySem.W.nsIn K mainGlobals "max" = some none)
    (z_min : PySem.W.nsIn K mainGlobals "min" = some none)
    (z_range : PySem.W.nsIn K mainGlobals "range" = some none)
    (z_set : PySem.W.nsIn K mainGlobals "set" = some none)
    (z_sorted : PySem.W.nsIn K mainGlobals "sorted" = some none)
    (z_str : PySem.W.nsIn K mainGlobals "str" = some none)
    (z_sum : PySem.W.nsIn K mainGlobals "sum" = some none)
    (z_tuple : PySem.W.nsIn K mainGlobals "tuple" = some none)
    : ∃ fd : FuncData, (∀ (s : Shared) (v : Value), BindsTo s fd ⟨[v], []⟩ [("_law_script", v)]) ∧ ∀ base : Heap, K.In base → base.Ns mainGlobals mg → FnOk l.prog w K mg base CX0 10 fa fd ["_law_script"] (spLaw K) := by
  have e := hfa.symm.trans (PySem.W.mg_of X G a47)
  cases e
  have T : WebC K C := ⟨⟨pgC, hdC, poC, saC⟩, n1, n2, n3⟩
  have m_abs := PySem.W.mg_none_of X G z_abs
  have m_all := PySem.W.mg_none_of X G z_all
  have m_bool := PySem.W.mg_none_of X G z_bool
  have m_enumerate := PySem.W.mg_none_of X G z_enumerate
  have m_int := PySem.W.mg_none_of X G z_int
  have m_isinstance := PySem.W.mg_none_of X G z_isinstance
  have m_len := PySem.W.mg_none_of X G z_len
  have m_list := PySem.W.mg_none_of X G z_list
  have m_max := PySem.W.mg_none_of X G z_max
  have m_min := PySem.W.mg_none_of X G z_min
  have m_range := PySem.W.mg_none_of X G z_range
  have m_set := PySem.W.mg_none_of X G z_set
  have m_sorted := PySem.W.mg_none_of X G z_sorted
  have m_str := PySem.W.mg_none_of X G z_str
  have m_sum := PySem.W.mg_none_of X G z_sum
  have m_tuple := PySem.W.mg_none_of X G z_tuple
  have F1 := fun_mk (st := s_choose_count) l1 c1 k1
  have b1 := F1.binds (ps := ["top", "many"]) fun _ _ _ _ _ _ us hl => match us, hl with | [_, _], _ => rfl
  have F2 := fun_mk (st := s_own_order) l2 c2 k2
  have b2 := F2.binds (ps := ["web"]) fun _ _ _ _ _ _ us hl => match us, hl with | [_], _ => rfl
  have F3 := fun_mk (st := s_thing_counts) l3 c3 k3
  have b3 := F3.binds (ps := ["things"]) fun _ _ _ _ _ _ us hl => match us, hl with | [_], _ => rfl
  have F4 := fun_mk (st := s_sums_with) l4 c4 k4
  have b4 := F4.binds (ps := ["sums", "number"]) fun _ _ _ _ _ _ us hl => match us, hl with | [_, _], _ => rfl
  have F5 := fun_mk (st := s_is_within) l5 c5 k5
  have b5 := F5.binds (ps := ["sums", "limits", "start"]) fun _ _ _ _ _ _ us hl => match us, hl with | [_, _, _], _ => rfl
  have F6 := fun_mk (st := s__law_stir) l6 c6 k6
  have b6 := F6.binds (ps := ["_law_number", "_law_turn"]) fun _ _ _ _ _ _ us hl => match us, hl with | [_, _], _ => rfl
  have F7 := fun_mk (st := s__law_whole) l7 c7 k7
  have b7 := F7.binds (ps := ["_law_thing"]) fun _ _ _ _ _ _ us hl => match us, hl with | [_], _ => rfl
  have F8 := fun_mk (st := s__law_hand) l8 c8 k8
  have b8 := F8.binds (ps := ["_law_script"]) fun _ _ _ _ _ _ us hl => match us, hl with | [_], _ => rfl
  have F9 := fun_mk (st := s__law_choose) l9 c9 k9
  have b9 := F9.binds (ps := ["_law_top", "_law_many"]) fun _ _ _ _ _ _ us hl => match us, hl with | [_, _], _ => rfl
  have F10 := fun_mk (st := s__law_more) l10 c10 k10
  have b10 := F10.binds (ps := ["_law_load", "_law_tie"]) fun _ _ _ _ _ _ us hl => match us, hl with | [_, _], _ => rfl
  have F11 : FunD K "is_whole" "is_whole" (defPars s_is_whole) (defBody s_is_whole) (defScope s_is_whole) [.non, .non] [] f11 _ := ⟨⟨_, _, _, _, _, _, _, _, _, _, rfl, l11, c11, .inr ⟨by simp, TW, _, [.none, .none], _, rfl, lT, rfl, .cons rfl (.cons rfl .nil)⟩, .inl rfl⟩, k11⟩
  obtain ⟨dw0, vw0, bw0⟩ := F11.binds1 (ps := ["thing", "low", "high"]) 3 2 (by simp) rfl fun _ _ _ _ _ _ _ us its hl hi => match us, its, hl, hi with | [_, _, _], [_, _], _, _ => ⟨_, rfl, rfl⟩
  obtain ⟨dw1, vw1, bw1⟩ := F11.binds1 (ps := ["thing", "low", "high"]) 2 1 (by simp) rfl fun _ _ _ _ _ _ _ us its hl hi => match us, its, hl, hi with | [_, _], [_, _], _, _ => ⟨_, rfl, rfl⟩
  have F12 := fun_mk (st := s_is_sequence) l12 c12 k12
  have b12 := F12.binds (ps := ["thing"]) fun _ _ _ _ _ _ us hl => match us, hl with | [_], _ => rfl
  have F13 := fun_mk (st := s_row_handed) l13 c13 k13
  have b13 := F13.binds (ps := ["row", "giver", "taker"]) fun _ _ _ _ _ _ us hl => match us, hl with | [_, _, _], _ => rfl
  have F14 := fun_mk (st := s_table_of) l14 c14 k14
  have b14 := F14.binds (ps := ["rows"]) fun _ _ _ _ _ _ us hl => match us, hl with | [_], _ => rfl
  have F15 := fun_mk (st := s_numbers_from) l15 c15 k15
  have b15 := F15.binds (ps := ["counts"]) fun _ _ _ _ _ _ us hl => match us, hl with | [_], _ => rfl
  have F16 := fun_mk (st := s_check_order) l16 c16 k16
  have b16 := F16.binds (ps := ["web", "order"]) fun _ _ _ _ _ _ us hl => match us, hl with | [_, _], _ => rfl
  have F17 := fun_mk (st := s_count_pieces) l17 c17 k17
  have b17 := F17.binds (ps := ["things", "clubs", "ties"]) fun _ _ _ _ _ _ us hl => match us, hl with | [_, _, _], _ => rfl
  have F18 := fun_mk (st := s_one_more) l18 c18 k18
  have b18 := F18.binds (ps := ["load", "tie"]) fun _ _ _ _ _ _ us hl => match us, hl with | [_, _], _ => rfl
  have F19 := fun_mk (st := s_free_size) l19 c19 k19
  have b19 := F19.binds (ps := ["web"]) fun _ _ _ _ _ _ us hl => match us, hl with | [_], _ => rfl
  have F20 := fun_mk (st := s_check_club) l20 c20 k20
  have b20 := F20.binds (ps := ["web", "club"]) fun _ _ _ _ _ _ us hl => match us, hl with | [_, _], _ => rfl
  have F21 := fun_mk (st := s__law_take) l21 c21 k21
  have b21 := F21.binds (ps := ["_law_hand_here", "_law_many"]) fun _ _ _ _ _ _ us hl => match us, hl with | [_, _], _ => rfl
  have F22 := fun_mk (st := s__law_exact) l22 c22 k22
  have b22 := F22.binds (ps := ["_law_told", "_law_due"]) fun _ _ _ _ _ _ us hl => match us, hl with | [_, _], _ => rfl
  have F23 := fun_mk (st := s__law_back) l23 c23 k23
  have b23 := F23.binds (ps := ["_law_above", "_law_numbers"]) fun _ _ _ _ _ _ us hl => match us, hl with | [_, _], _ => rfl
  have F24 := fun_mk (st := s__law_by_formula) l24 c24 k24
  have b24 := F24.binds (ps := ["_law_inward", "_law_free", "_law_size_here"]) fun _ _ _ _ _ _ us hl => match us, hl with | [_, _, _], _ => rfl
  have F25 := fun_mk (st := s__law_loads) l25 c25 k25
  have b25 := F25.binds (ps := ["_law_n", "_law_m", "_law_ties", "_law_many"]) fun _ _ _ _ _ _ us hl => match us, hl with | [_, _, _, _], _ => rfl
  have F26 := fun_mk (st := s_longer_rows) l26 c26 k26
  have b26 := F26.binds (ps := ["rows", "limits", "most"]) fun _ _ _ _ _ _ us hl => match us, hl with | [_, _, _], _ => rfl
  have F27 := fun_mk (st := s_is_couple) l27 c27 k27
  have b27 := F27.binds (ps := ["thing"]) fun _ _ _ _ _ _ us hl => match us, hl with | [_], _ => rfl
  have F28 := fun_mk (st := s_busy_among) l28 c28 k28
  have b28 := F28.binds (ps := ["known", "row", "order"]) fun _ _ _ _ _ _ us hl => match us, hl with | [_, _, _], _ => rfl
  have F29 := fun_mk (st := s_is_number_row) l29 c29 k29
  have b29 := F29.binds (ps := ["row", "many"]) fun _ _ _ _ _ _ us hl => match us, hl with | [_, _], _ => rfl
  have F30 := fun_mk (st := s_check_many) l30 c30 k30
  have b30 := F30.binds (ps := ["many", "most"]) fun _ _ _ _ _ _ us hl => match us, hl with | [_, _], _ => rfl
  have F31 := fun_mk (st := s_things_of) l31 c31 k31
  have b31 := F31.binds (ps := ["web", "club"]) fun _ _ _ _ _ _ us hl => match us, hl with | [_, _], _ => rfl
  have F32 := fun_mk (st := s_inward_from) l32 c32 k32
  have b32 := F32.binds (ps := ["web", "numbers"]) fun _ _ _ _ _ _ us hl => match us, hl with | [_, _], _ => rfl
  have F33 := fun_mk (st := s__law_size) l33 c33 k33
  have b33 := F33.binds (ps := ["_law_hand_here", "_law_most"]) fun _ _ _ _ _ _ us hl => match us, hl with | [_, _], _ => rfl
  have F34 := fun_mk (st := s__law_order) l34 c34 k34
  have b34 := F34.binds (ps := ["_law_hand_here", "_law_m"]) fun _ _ _ _ _ _ us hl => match us, hl with | [_, _], _ => rfl
  have F35 := fun_mk (st := s_all_loads) l35 c35 k35
  have b35 := F35.binds (ps := ["web", "many"]) fun _ _ _ _ _ _ us hl => match us, hl with | [_, _], _ => rfl
  have F36 := fun_mk (st := s__law_by_loads) l36 c36 k36
  have b36 := F36.binds (ps := ["_law_n", "_law_m", "_law_ties"]) fun _ _ _ _ _ _ us hl => match us, hl with | [_, _, _], _ => rfl
  have F37 := fun_mk (st := s_Web_init) l37 c37 k37
  have b37 := F37.binds (ps := ["self", "things", "clubs", "ties"]) fun _ _ _ _ _ _ us hl => match us, hl with | [_, _, _, _], _ => rfl
  have F38 := fun_mk (st := s__law_web) l38 c38 k38
  have b38 := F38.binds (ps := ["_law_hand_here", "_law_things", "_law_clubs", "_law_most"]) fun _ _ _ _ _ _ us hl => match us, hl with | [_, _, _, _], _ => rfl
  have F39 := fun_mk (st := s_held_counts) l39 c39 k39
  have b39 := F39.binds (ps := ["web"]) fun _ _ _ _ _ _ us hl => match us, hl with | [_], _ => rfl
  have F40 := fun_mk (st := s_shown_rows) l40 c40 k40
  have b40 := F40.binds (ps := ["web"]) fun _ _ _ _ _ _ us hl => match us, hl with | [_], _ => rfl
  have F41 := fun_mk (st := s_turned_over) l41 c41 k41
  have b41 := F41.binds (ps := ["web"]) fun _ _ _ _ _ _ us hl => match us, hl with | [_], _ => rfl
  have F42 := fun_mk (st := s_inward_by) l42 c42 k42
  have b42 := F42.binds (ps := ["web", "order"]) fun _ _ _ _ _ _ us hl => match us, hl with | [_, _], _ => rfl
  have F43 := fun_mk (st := s_inward_of) l43 c43 k43
  have b43 := F43.binds (ps := ["web"]) fun _ _ _ _ _ _ us hl => match us, hl with | [_], _ => rfl
  have F44 := fun_mk (st := s_thing_inward) l44 c44 k44
  have b44 := F44.binds (ps := ["web"]) fun _ _ _ _ _ _ us hl => match us, hl with | [_], _ => rfl
  have F45 := fun_mk (st := s_load_count) l45 c45 k45
  have b45 := F45.binds (ps := ["web", "many"]) fun _ _ _ _ _ _ us hl => match us, hl with | [_, _], _ => rfl
  have F46 := fun_mk (st := s__law_asked) l46 c46 k46
  have b46 := F46.binds (ps := ["_law_hand_here", "_law_web_here", "_law_n", "_law_m", "_law_inward"]) fun _ _ _ _ _ _ us hl => match us, hl with | [_, _, _, _, _], _ => rfl
  have F47 := fun_mk (st := s_law) l47 c47 k47
  refine ⟨PySem.W.fnOf "law" "law" (defArgs s_law) (defBody s_law) (defScope s_law) .none kV47 dc47 pm47 an47 cd47 ct47, fun s v => .of_eq rfl, fun base _ _ => ?_⟩
  have F_choose_count : Has l.prog w K mg base "choose_count" 1 ["top", "many"] [] (prChoose.sp C) := .mk' F1 (ok_choose_count F1 m_range) (PySem.W.mg_of X G a1) b1
  have F_own_order : Has l.prog w K mg base "own_order" 1 ["web"] [] (prOwnOrder.sp C) := .mk' F2 (ok_own_order F2 T m_range m_tuple) (PySem.W.mg_of X G a2) b2
  have F_thing_counts : Has l.prog w K mg base "thing_counts" 1 ["things"] [] (prTc.sp C) := .mk' F3 (ok_thing_counts F3 m_range) (PySem.W.mg_of X G a3) b3
  have F_sums_with : Has l.prog w K mg base "sums_with" 1 ["sums", "number"] [] (prSums.sp C) := .mk' F4 (ok_sums_with F4 ) (PySem.W.mg_of X G a4) b4
  have F_is_within : Has l.prog w K mg base "is_within" 1 ["sums", "limits", "start"] [] (prWithin.sp C) := .mk' F5 (ok_is_within F5 m_len m_range) (PySem.W.mg_of X G a5) b5
  have F__law_stir : Has l.prog w K mg base "_law_stir" 1 ["_law_number", "_law_turn"] [] (prStir.sp C) := .mk' F6 (ok__law_stir F6 m_int) (PySem.W.mg_of X G a6) b6
  have F__law_whole : Has l.prog w K mg base "_law_whole" 1 ["_law_thing"] [] (prLWhole.sp C) := .mk' F7 (ok__law_whole F7 m_bool m_int m_isinstance) (PySem.W.mg_of X G a7) b7
  have F__law_hand : Has l.prog w K mg base "_law_hand" 1 ["_law_script"] [] (spHand K) := .mk' F8 (ok__law_hand F8 m_abs m_int m_len) (PySem.W.mg_of X G a8) b8
  have F__law_choose : Has l.prog w K mg base "_law_choose" 1 ["_law_top", "_law_many"] [] (prChoose.sp C) := .mk' F9 (ok__law_choose F9 m_range) (PySem.W.mg_of X G a9) b9
  have F__law_more : Has l.prog w K mg base "_law_more" 1 ["_law_load", "_law_tie"] [] (prLMore.sp C) := .mk' F10 (ok__law_more F10 m_list m_tuple) (PySem.W.mg_of X G a10) b10
  have F_is_whole : Has l.prog w K mg base "is_whole" 1 ["thing", "low", "high"] [] (prWhole.sp C) := ⟨f11, _, dw0, ok_is_whole F11 m_bool m_int m_isinstance, PySem.W.mg_of X G a11, k11, bw0, vw0⟩
  have F_is_whole1 : Has l.prog w K mg base "is_whole" 1 ["thing", "low", "high"] [.non] (prWhole.sp C) := ⟨f11, _, dw1, ok_is_whole F11 m_bool m_int m_isinstance, PySem.W.mg_of X G a11, k11, bw1, vw1⟩
  have F_is_sequence : Has l.prog w K mg base "is_sequence" 1 ["thing"] [] (prSeq.sp C) := .mk' F12 (ok_is_sequence F12 m_isinstance m_list m_tuple) (PySem.W.mg_of X G a12) b12
  have F_row_handed : Has l.prog w K mg base "row_handed" 1 ["row", "giver", "taker"] [] (prHanded.sp C) := .mk' F13 (ok_row_handed F13 m_list m_tuple) (PySem.W.mg_of X G a13) b13
  have F_table_of : Has l.prog w K mg base "table_of" 1 ["rows"] [] (prTable.sp C) := .mk' F14 (ok_table_of F14 ) (PySem.W.mg_of X G a14) b14
  have F_numbers_from : Has l.prog w K mg base "numbers_from" 1 ["counts"] [] (prNums.sp C) := .mk' F15 (ok_numbers_from F15 m_max m_tuple) (PySem.W.mg_of X G a15) b15
  have F_check_order : Has l.prog w K mg base "check_order" 1 ["web", "order"] [] (prOrder.sp C) := .mk' F16 (ok_check_order F16 T m_bool m_int m_isinstance m_len m_list m_range m_sorted m_tuple) (PySem.W.mg_of X G a16) b16
  have F_count_pieces : Has l.prog w K mg base "count_pieces" 1 ["things", "clubs", "ties"] [] (prPieces.sp C) := .mk' F17 (ok_count_pieces F17 m_len m_list m_range m_set) (PySem.W.mg_of X G a17) b17
  have F_one_more : Has l.prog w K mg base "one_more" 1 ["load", "tie"] [] (prOneMore.sp C) := .mk' F18 (ok_one_more F18 m_enumerate m_int m_tuple) (PySem.W.mg_of X G a18) b18
  have F_free_size : Has l.prog w K mg base "free_size" 1 ["web"] [] (prFree.sp C) := .mk' F19 (ok_free_size F19 T) (PySem.W.mg_of X G a19) b19
  have F_check_club : Has l.prog w K mg base "check_club" 2 ["web", "club"] [] (prCheckClub.sp C) := .mk' F20 (ok_check_club F20 T F_is_whole) (PySem.W.mg_of X G a20) b20
  have F__law_take : Has l.prog w K mg base "_law_take" 2 ["_law_hand_here", "_law_many"] [] spTake := .mk' F21 (ok__law_take F21 m_int m_len F__law_stir) (PySem.W.mg_of X G a21) b21
  have F__law_exact0 : Has l.prog w K mg base "_law_exact" 1 ["_law_told", "_law_due"] [] spNo := .mk' F22 (no_exact F22 sc__law_exact) (PySem.W.mg_of X G a22) b22
  have F__law_exactI : Has l.prog w K mg base "_law_exact" 2 ["_law_told", "_law_due"] [] (prExI.sp C) := .mk' F22 (ok__law_exact1 F22 m_isinstance m_len m_range m_str m_tuple F__law_exact0 F__law_whole) (PySem.W.mg_of X G a22) b22
  have F__law_back : Has l.prog w K mg base "_law_back" 2 ["_law_above", "_law_numbers"] [] (prLBack.sp C) := .mk' F23 (ok__law_back F23 m_int m_len m_range m_tuple F__law_choose) (PySem.W.mg_of X G a23) b23
  have F__law_by_formula : Has l.prog w K mg base "_law_by_formula" 2 ["_law_inward", "_law_free", "_law_size_here"] [] (prLForm.sp C) := .mk' F24 (ok__law_by_formula F24 m_len m_range m_sum F__law_choose) (PySem.W.mg_of X G a24) b24
  have F__law_loads : Has l.prog w K mg base "_law_loads" 2 ["_law_n", "_law_m", "_law_ties", "_law_many"] [] (prLLoads.sp C) := .mk' F25 (ok__law_loads F25 m_list m_range m_sorted F__law_more) (PySem.W.mg_of X G a25) b25
  have F_longer_rows : Has l.prog w K mg base "longer_rows" 2 ["rows", "limits", "most"] [] (prLonger.sp C) := .mk' F26 (ok_longer_rows F26 m_len m_range F_is_within F_sums_with) (PySem.W.mg_of X G a26) b26
  have F_is_couple : Has l.prog w K mg base "is_couple" 2 ["thing"] [] (prCouple.sp C) := .mk' F27 (ok_is_couple F27 m_len F_is_sequence) (PySem.W.mg_of X G a27) b27
  have F_busy_among : Has l.prog w K mg base "busy_among" 2 ["known", "row", "order"] [] (prBusy.sp C) := .mk' F28 (ok_busy_among F28 m_enumerate m_sorted m_tuple F_row_handed) (PySem.W.mg_of X G a28) b28
  have F_is_number_row : Has l.prog w K mg base "is_number_row" 2 ["row", "many"] [] (prNumRow.sp C) := .mk' F29 (ok_is_number_row F29 m_all m_len F_is_sequence F_is_whole1) (PySem.W.mg_of X G a29) b29
  have F_check_many : Has l.prog w K mg base "check_many" 2 ["many", "most"] [] (prMany.sp C) := .mk' F30 (ok_check_many F30 F_is_whole) (PySem.W.mg_of X G a30) b30
  have F_things_of : Has l.prog w K mg base "things_of" 3 ["web", "club"] [] (prThingsOf.sp C) := .mk' F31 (ok_things_of F31 T m_tuple F_check_club) (PySem.W.mg_of X G a31) b31
  have F_inward_from : Has l.prog w K mg base "inward_from" 3 ["web", "numbers"] [] (prFrom.sp C) := .mk' F32 (ok_inward_from F32 T m_len m_min m_range m_sum m_tuple F_choose_count F_free_size F_is_number_row) (PySem.W.mg_of X G a32) b32
  have F__law_size : Has l.prog w K mg base "_law_size" 3 ["_law_hand_here", "_law_most"] [] spSize := .mk' F33 (ok__law_size F33 F__law_take) (PySem.W.mg_of X G a33) b33
  have F__law_order : Has l.prog w K mg base "_law_order" 3 ["_law_hand_here", "_law_m"] [] spDrawnOrd := .mk' F34 (ok__law_order F34 m_len m_list m_range F__law_take) (PySem.W.mg_of X G a34) b34
  have F__law_exact : Has l.prog w K mg base "_law_exact" 3 ["_law_told", "_law_due"] [] (prExT.sp C) := .mk' F22 (ok__law_exact2 F22 m_isinstance m_len m_range m_str m_tuple F__law_exactI F__law_whole) (PySem.W.mg_of X G a22) b22
  have F_all_loads : Has l.prog w K mg base "all_loads" 3 ["web", "many"] [] (prAll.sp C) := .mk' F35 (ok_all_loads F35 T m_range m_set m_sorted m_tuple F_check_many F_one_more) (PySem.W.mg_of X G a35) b35
  have F__law_by_loads : Has l.prog w K mg base "_law_by_loads" 3 ["_law_n", "_law_m", "_law_ties"] [] (prLBy.sp C) := .mk' F36 (ok__law_by_loads F36 m_len m_min F__law_back F__law_loads) (PySem.W.mg_of X G a36) b36
  have F_Web : HasW l.prog w K mg base C 3 := ⟨f37, _, ok_Web_init F37 T m_len m_set m_sorted m_tuple F_count_pieces F_is_couple F_is_sequence F_is_whole, ⟨mkC, a37, i37, kcC⟩, PySem.W.mg_of X G aC, b37⟩
  have F__law_web : Has l.prog w K mg base "_law_web" 4 ["_law_hand_here", "_law_things", "_law_clubs", "_law_most"] [] spDrawn := .mk' F38 (ok__law_web F38 m_len m_range m_sorted F__law_size F__law_take) (PySem.W.mg_of X G a38) b38
  have F_held_counts : Has l.prog w K mg base "held_counts" 4 ["web"] [] (prHeld.sp C) := .mk' F39 (ok_held_counts F39 T m_range F_thing_counts F_things_of) (PySem.W.mg_of X G a39) b39
  have F_shown_rows : Has l.prog w K mg base "shown_rows" 5 ["web"] [] (prShown.sp C) := .mk' F40 (ok_shown_rows F40 T m_range m_tuple F_held_counts F_longer_rows) (PySem.W.mg_of X G a40) b40
  have F_turned_over : Has l.prog w K mg base "turned_over" 5 ["web"] [] (prTurned.sp C) := .mk' F41 (ok_turned_over F41 T F_Web) (PySem.W.mg_of X G a41) b41
  have F_inward_by : Has l.prog w K mg base "inward_by" 6 ["web", "order"] [] (prInward.sp C) := .mk' F42 (ok_inward_by F42 m_len F_busy_among F_check_order F_numbers_from F_shown_rows F_table_of) (PySem.W.mg_of X G a42) b42
  have F_inward_of : Has l.prog w K mg base "inward_of" 7 ["web"] [] (prInwardOf.sp C) := .mk' F43 (ok_inward_of F43 F_inward_by F_own_order) (PySem.W.mg_of X G a43) b43
  have F_thing_inward : Has l.prog w K mg base "thing_inward" 8 ["web"] [] (prThingInw.sp C) := .mk' F44 (ok_thing_inward F44 F_inward_of F_turned_over) (PySem.W.mg_of X G a44) b44
  have F_load_count : Has l.prog w K mg base "load_count" 8 ["web", "many"] [] (prCount.sp C) := .mk' F45 (ok_load_count F45 m_enumerate m_sum F_check_many F_choose_count F_free_size F_inward_of) (PySem.W.mg_of X G a45) b45
  have F__law_asked : Has l.prog w K mg base "_law_asked" 9 ["_law_hand_here", "_law_web_here", "_law_n", "_law_m", "_law_inward"] [] (spAsked C) := .mk' F46 (ok__law_asked F46 m_len m_min m_range m_tuple F__law_exact F__law_order F_all_loads F_inward_by F_inward_from F_inward_of F_thing_inward F_turned_over) (PySem.W.mg_of X G a46) b46
  exact ok_law F47 m_all m_len m_min m_range m_sorted F_Web F__law_asked F__law_by_formula F__law_by_loads F__law_exact F__law_exactI F__law_hand F__law_loads F__law_take F__law_web F_inward_of F_load_count
end Kx
end
section
set_option Elab.async false
set_option linter.all false
set_option maxRecDepth 100000
open PySem PySem.W PyProof.Rows
set_option maxHeartbeats 0 in
theorem PySem.Challenge.cw_treedeals_k48_whole_inward_numbers_count_holds : PySem.Challenge.rw_treedeals_k48_whole_inward_numbers_count.Holds := by
  w_on; o_law; k_head; (case hw => w_witness2)
  k_fill
  refine L2.walk_of (l := PySem.Challenge.rw_treedeals_k48_whole_inward_numbers_count) (n := 63) (k := 10) (x := "_law_script") (CX := fun _ => L2.CX0) (sp := fun w => Kx.spLaw _) rfl (by decide) rfl ⟨rfl, by decide, by decide⟩ (fun w h Y => PySem.W.kIn_of Y) ?F (fun _ H a ns hl _ hS => ⟨a, H, ns, rfl, Kx.lawAll, fun _ _ h => h, hS, Nat.le_trans hl (by decide), fun _ => rfl⟩) (fun _ _ _ _ _ h => h)
  case F =>
    intro w mg fa h KX G hmg
    refine' Kx.all_mk KX G hmg ?aC ?a1 ?l1 ?c1 ?k1 ?a2 ?l2 ?c2 ?k2 ?a3 ?l3 ?c3 ?k3 ?a4 ?l4 ?c4 ?k4 ?a5 ?l5 ?c5 ?k5 ?a6 ?l6 ?c6 ?k6 ?a7 ?l7 ?c7 ?k7 ?a8 ?l8 ?c8 ?k8 ?a9 ?l9 ?c9 ?k9 ?a10 ?l10 ?c10 ?k10 ?a11 ?l11 ?lT ?c11 ?k11 ?a12 ?l12 ?c12 ?k12 ?a13 ?l13 ?c13 ?k13 ?a14 ?l14 ?c14 ?k14 ?a15 ?l15 ?c15 ?k15 ?a16 ?l16 ?c16 ?k16 ?a17 ?l17 ?c17 ?k17 ?a18 ?l18 ?c18 ?k18 ?a19 ?l19 ?c19 ?k19 ?a20 ?l20 ?c20 ?k20 ?a21 ?l21 ?c21 ?k21 ?a22 ?l22 ?c22 ?k22 ?a23 ?l23 ?c23 ?k23 ?a24 ?l24 ?c24 ?k24 ?a25 ?l25 ?c25 ?k25 ?a26 ?l26 ?c26 ?k26 ?a27 ?l27 ?c27 ?k27 ?a28 ?l28 ?c28 ?k28 ?a29 ?l29 ?c29 ?k29 ?a30 ?l30 ?c30 ?k30 ?a31 ?l31 ?c31 ?k31 ?a32 ?l32 ?c32 ?k32 ?a33 ?l33 ?c33 ?k33 ?a34 ?l34 ?c34 ?k34 ?a35 ?l35 ?c35 ?k35 ?a36 ?l36 ?c36 ?k36 ?a37 ?i37 ?l37 ?c37 ?k37 ?a38 ?l38 ?c38 ?k38 ?a39 ?l39 ?c39 ?k39 ?a40 ?l40 ?c40 ?k40 ?a41 ?l41 ?c41 ?k41 ?a42 ?l42 ?c42 ?k42 ?a43 ?l43 ?c43 ?k43 ?a44 ?l44 ?c44 ?k44 ?a45 ?l45 ?c45 ?k45 ?a46 ?l46 ?c46 ?k46 ?a47 ?l47 ?c47 ?k47 ?pgC ?hdC ?poC ?saC ?mkC ?kcC ?n1 ?n2 ?n3 ?z_abs ?z_all ?z_bool ?z_enumerate ?z_int ?z_isinstance ?z_len ?z_list ?z_max ?z_min ?z_range ?z_set ?z_sorted ?z_str ?z_sum ?z_tuple
    (case aC => k_is)
    (case a1 => k_is)
    (case l1 => k_is)
    (case c1 => k_is)
    (case k1 => k_is)
    (case a2 => k_is)
    (case l2 => k_is)
    (case c2 => k_is)
    (case k2 => k_is)
    (case a3 => k_is)
    (case l3 => k_is)
    (case c3 => k_is)
    (case k3 => k_is)
    (case a4 => k_is)
    (case l4 => k_is)
    (case c4 => k_is)
    (case k4 => k_is)
    (case a5 => k_is)
    (case l5 => k_is)
    (case c5 => k_is)
    (case k5 => k_is)
    (case a6 => k_is)
    (case l6 => k_is)
    (case c6 => k_is)
    (case k6 => k_is)
    (case a7 => k_is)
    (case l7 => k_is)
    (case c7 => k_is)
    (case k7 => k_is)
    (case a8 => k_is)
    (case l8 => k_is)
    (case c8 => k_is)
    (case k8 => k_is)
    (case a9 => k_is)
    (case l9 => k_is)
    (case c9 => k_is)
    (case k9 => k_is)
    (case a10 => k_is)
    (case l10 => k_is)
    (case c10 => k_is)
    (case k10 => k_is)
    (case a11 => k_is)
    (case l11 => k_is)
    (case lT => k_is)
    (case c11 => k_is)
    (case k11 => k_is)
    (case a12 => k_is)
    (case l12 => k_is)
    (case c12 => k_is)
    (case k12 => k_is)
    (case a13 => k_is)
    (case l13 => k_is)
    (case c13 => k_is)
    (case k13 => k_is)
    (case a14 => k_is)
    (case l14 => k_is)
    (case c14 => k_is)
    (case k14 => k_is)
    (case a15 => k_is)
    (case l15 => k_is)
    (case c15 => k_is)
    (case k15 => k_is)
    (case a16 => k_is)
    (case l16 => k_is)
    (case c16 => k_is)
    (case k16 => k_is)
    (case a17 => k_is)
    (case l17 => k_is)
    (case c17 => k_is)
    (case k17 => k_is)
    (case a18 => k_is)
    (case l18 => k_is)
    (case c18 => k_is)
    (case k18 => k_is)
    (case a19 => k_is)
    (case l19 => k_is)
    (case c19 => k_is)
    (case k19 => k_is)
    (case a20 => k_is)
    (case l20 => k_is)
    (case c20 => k_is)
    (case k20 => k_is)
    (case a21 => k_is)
    (case l21 => k_is)
    (case c21 => k_is)
    (case k21 => k_is)
    (case a22 => k_is)
    (case l22 => k_is)
    (case c22 => k_is)
    (case k22 => k_is)
    (case a23 => k_is)
    (case l23 => k_is)
    (case c23 => k_is)
    (case k23 => k_is)
    (case a24 => k_is)
    (case l24 => k_is)
    (case c24 => k_is)
    (case k24 => k_is)
    (case a25 => k_is)
    (case l25 => k_is)
    (case c25 => k_is)
    (case k25 => k_is)
    (case a26 => k_is)
    (case l26 => k_is)
    (case c26 => k_is)
    (case k26 => k_is)
    (case a27 => k_is)
    (case l27 => k_is)
    (case c27 => k_is)
    (case k27 => k_is)
    (case a28 => k_is)
    (case l28 => k_is)
    (case c28 => k_is)
    (case k28 => k_is)
    (case a29 => k_is)
    (case l29 => k_is)
    (case c29 => k_is)
    (case k29 => k_is)
    (case a30 => k_is)
    (case l30 => k_is)
    (case c30 => k_is)
    (case k30 => k_is)
    (case a31 => k_is)
    (case l31 => k_is)
    (case c31 => k_is)
    (case k31 => k_is)
    (case a32 => k_is)
    (case l32 => k_is)
    (case c32 => k_is)
    (case k32 => k_is)
    (case a33 => k_is)
    (case l33 => k_is)
    (case c33 => k_is)
    (case k33 => k_is)
    (case a34 => k_is)
    (case l34 => k_is)
    (case c34 => k_is)
    (case k34 => k_is)
    (case a35 => k_is)
    (case l35 => k_is)
    (case c35 => k_is)
    (case k35 => k_is)
    (case a36 => k_is)
    (case l36 => k_is)
    (case c36 => k_is)
    (case k36 => k_is)
    (case a37 => k_is)
    (case i37 => k_is)
    (case l37 => k_is)
    (case c37 => k_is)
    (case k37 => k_is)
    (case a38 => k_is)
    (case l38 => k_is)
    (case c38 => k_is)
    (case k38 => k_is)
    (case a39 => k_is)
    (case l39 => k_is)
    (case c39 => k_is)
    (case k39 => k_is)
    (case a40 => k_is)
    (case l40 => k_is)
    (case c40 => k_is)
    (case k40 => k_is)
    (case a41 => k_is)
    (case l41 => k_is)
    (case c41 => k_is)
    (case k41 => k_is)
    (case a42 => k_is)
    (case l42 => k_is)
    (case c42 => k_is)
    (case k42 => k_is)
    (case a43 => k_is)
    (case l43 => k_is)
    (case c43 => k_is)
    (case k43 => k_is)
    (case a44 => k_is)
    (case l44 => k_is)
    (case c44 => k_is)
    (case k44 => k_is)
    (case a45 => k_is)
    (case l45 => k_is)
    (case c45 => k_is)
    (case k45 => k_is)
    (case a46 => k_is)
    (case l46 => k_is)
    (case c46 => k_is)
    (case k46 => k_is)
    (case a47 => k_is)
    (case l47 => k_is)
    (case c47 => k_is)
    (case k47 => k_is)
    (case pgC => k_is)
    (case hdC => k_is)
    (case poC => k_is)
    (case saC => k_is)
    (case mkC => k_is)
    (case kcC => k_is)
    (case n1 => k_is)
    (case n2 => k_is)
    (case n3 => k_is)
    (case z_abs => k_is)
    (case z_all => k_is)
    (case z_bool => k_is)
    (case z_enumerate => k_is)
    (case z_int => k_is)
    (case z_isinstance => k_is)
    (case z_len => k_is)
    (case z_list => k_is)
    (case z_max => k_is)
    (case z_min => k_is)
    (case z_range => k_is)
    (case z_set => k_is)
    (case z_sorted => k_is)
    (case z_str => k_is)
    (case z_sum => k_is)
    (case z_tuple => k_is)
end
