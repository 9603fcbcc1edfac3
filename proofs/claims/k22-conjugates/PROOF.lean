import PyProof.Rows.All
import Wide.All
import OpenK.AllK
import Wide.FinOn
import HandS.ForMost
import HandS.TupAny
import HandS.TupMul
import HandS.RaiseMore
import HandS.Wide
import HandS.Deep
import HandS.Conv
import KE.KEqDat
import KE.GoesNew
import HandS.Walk
import HandS.Rev
import HandS.Comp
import HandS.Iter
import HandS.Style
import HandS.List
import HandS.More
import KE.DataAny
import KE.DataMinMax
import KE.DataIsa
import KE.DataCmp
import KE.SortData
import PyProof.ReprRoads
import PyProof.Rows.RowBridgeK
import HandS.Words
import HandS.Exc
import HandS.ExcOwn
import HandS.Ends
import PyProof.ReprBulk
import HandS.IsInst
import KE.KDictPairs
import HandS.TupLen
import KE.KDictKeyed
import KE.KExcSuper
import HandS.ExcInit
import HandS.ExcSuper
import HandS.ExcField
import HandS.TryOnly
import HandS.TryMany
import HandS.Small
import HandS.ExcIs
import KE.BitLaws
import HandS.Zip
import KE.KDictSum
import KE.KDictCopyH
import KE.GoesNewDict
import KE.GoesDict
import KE.KDictDisplayH
import HandS.DictTup
import KE.KDictItemsList
import KE.KExcIs
import PySem.Challenge.RW_fullhills_k22_whole_conjugates
set_option Elab.async false
set_option linter.all false
set_option maxRecDepth 100000
set_option maxHeartbeats 40000000
set_option exponentiation.threshold 3000
/-! Data level over the hand layer: plain data, owned mutable objects, weakest preconditions that name no heap. -/
namespace DL
open PySem PySem.Spec PyProof.Rows L2

/-! ### plain data in a frozen heap -/
/-- tuples of ints and texts alone may be keys of a dict; of others the object is known to have no dict -/
def keyV : V → Bool
  | .int _ => true
  | .str _ => true
  | _ => false
def tupK (xs : List V) : Bool := xs.all keyV
def tupO (o : Obj) (xs : List V) : HO := if tupK xs = true then .tup xs else .frz o (.tup xs)
def TupAt (F : Hp) (a : Addr) (xs : List V) : Prop := ∃ o : Obj, o.dict = none ∧ F a = some (tupO o xs)
theorem TupAt.mono {F F' : Hp} {a : Addr} {xs : List V} (e : Same F F') : TupAt F a xs → TupAt F' a xs
  | ⟨o, h, q⟩ => ⟨o, h, e _ _ q⟩
theorem TupAt.sq {K : PySem.W.Frag} {F : Hp} {a : Addr} {xs : List V} (h : TupAt F a xs) : SqT K F a xs := by
  obtain ⟨o, _, q⟩ := h
  unfold tupO at q
  split at q
  · exact .inl (.inl q)
  · exact .inl (.inr ⟨o, q⟩)
theorem TupAt.new {F : Hp} {p : Addr} {o : Obj} {xs : List V} (h : o.dict = none) : TupAt (upd F p (tupO o xs)) p xs := ⟨o, h, upd_same⟩
/-- the keys of dicts as data -/
def kP : Key → PyData
  | .inl i => .int i
  | .inr x => .str x
def tP (k : List Key) : PyData := .tuple (k.map kP)
def entK (kvs : List (Key × PyData)) : List (PyData × PyData) := kvs.map fun p => (kP p.1, p.2)
def entT (kvs : List (List Key × PyData)) : List (PyData × PyData) := kvs.map fun p => (tP p.1, p.2)
abbrev encK (kvs : List (Key × PyData)) : PyData := .dict (entK kvs)
abbrev encT (kvs : List (List Key × PyData)) : PyData := .dict (entT kvs)
mutual
inductive Dq (K : PySem.W.Frag) (F : Hp) : V → PyData → Prop
  | non : Dq K F .non .none
  | bl (b : Bool) : Dq K F (.bl b) (.bool b)
  | int (i : Int) : Dq K F (.int i) (.int i)
  | str (x : Str) : Dq K F (.str x) (.str x)
  | lst {a : Addr} {xs : List V} {ds : List PyData} : F a = some (.lst xs) → DqAll K F xs ds → Dq K F (.ref a) (.list ds)
  | tup {a : Addr} {xs : List V} {ds : List PyData} : TupAt F a xs → DqAll K F xs ds → Dq K F (.ref a) (.tuple ds)
  | dK {a : Addr} {ws : List (Key × V)} {kvs : List (Key × PyData)} {D : List (PyData × PyData)} : Rd F a (.dK ws) → ws.map (·.1) = kvs.map (·.1) → DqAll K F (ws.map (·.2)) (kvs.map (·.2)) → D = entK kvs ∧ kvs ≠ [] → Dq K F (.ref a) (.dict D)
  | dT {a : Addr} {ws : List (List Key × V)} {kvs : List (List Key × PyData)} {D : List (PyData × PyData)} : Rd F a (.dT ws) → ws.map (·.1) = kvs.map (·.1) → DqAll K F (ws.map (·.2)) (kvs.map (·.2)) → D = entT kvs → Dq K F (.ref a) (.dict D)
inductive DqAll (K : PySem.W.Frag) (F : Hp) : List V → List PyData → Prop
  | nil : DqAll K F [] []
  | cons {v : V} {vs : List V} {d : PyData} {ds : List PyData} : Dq K F v d → DqAll K F vs ds → DqAll K F (v :: vs) (d :: ds)
end
theorem Same.tup {K : PySem.W.Frag} {H H' : Hp} {a : Addr} {xs : List V} (e : Same H H') (h : SqT K H a xs) : SqT K H' a xs := by
  rcases h with (h | ⟨o, h⟩) | h
  · exact .inl (.inl (e _ _ h))
  · exact .inl (.inr ⟨o, e _ _ h⟩)
  · exact .inr h
theorem rd_mono {F F' : Hp} {a : Addr} {u : HO} (e : Same F F') : Rd F a u → Rd F' a u
  | .inl h => .inl (e _ _ h)
  | .inr ⟨o, h⟩ => .inr ⟨o, e _ _ h⟩
section
variable {K : PySem.W.Frag} {F F' : Hp}
mutual
theorem Dq.mono (e : Same F F') : ∀ {v : V} {d : PyData}, Dq K F v d → Dq K F' v d
  | _, _, .non => .non
  | _, _, .bl b => .bl b
  | _, _, .int i => .int i
  | _, _, .str x => .str x
  | _, _, .lst h t => .lst (e _ _ h) (DqAll.mono e t)
  | _, _, .tup h t => .tup (h.mono e) (DqAll.mono e t)
  | _, _, .dK h k t q => .dK (rd_mono e h) k (DqAll.mono e t) q
  | _, _, .dT h k t q => .dT (rd_mono e h) k (DqAll.mono e t) q
theorem DqAll.mono (e : Same F F') : ∀ {vs : List V} {ds : List PyData}, DqAll K F vs ds → DqAll K F' vs ds
  | _, _, .nil => .nil
  | _, _, .cons h t => .cons (Dq.mono e h) (DqAll.mono e t)
end
theorem DqAll.length : ∀ {vs : List V} {ds : List PyData}, DqAll K F vs ds → vs.length = ds.length
  | _, _, .nil => rfl
  | _, _, .cons _ t => congrArg (· + 1) (DqAll.length t)
theorem DqAll.get : ∀ {vs : List V} {ds : List PyData} {i : Nat} {v : V}, DqAll K F vs ds → vs[i]? = some v → ∃ d, ds[i]? = some d ∧ Dq K F v d
  | _, _, _, _, .nil, e => by simp at e
  | _, _, 0, _, .cons h _, e => by simp at e; subst e; exact ⟨_, rfl, h⟩
  | _, _, i + 1, v, .cons _ t, e => by
    obtain ⟨d, h1, h2⟩ := DqAll.get (i := i) (v := v) t (by simpa using e)
    exact ⟨d, by simpa using h1, h2⟩
theorem DqAll.getD : ∀ {vs : List V} {ds : List PyData} {i : Nat} {d : PyData}, DqAll K F vs ds → ds[i]? = some d → ∃ v, vs[i]? = some v ∧ Dq K F v d
  | _, _, _, _, .nil, e => by simp at e
  | _, _, 0, _, .cons h _, e => by simp at e; subst e; exact ⟨_, rfl, h⟩
  | _, _, i + 1, d, .cons _ t, e => by
    obtain ⟨v, h1, h2⟩ := DqAll.getD (i := i) (d := d) t (by simpa using e)
    exact ⟨v, by simpa using h1, h2⟩
theorem DqAll.append : ∀ {vs ws : List V} {ds es : List PyData}, DqAll K F vs ds → DqAll K F ws es → DqAll K F (vs ++ ws) (ds ++ es)
  | _, _, _, _, .nil, s => s
  | _, _, _, _, .cons h t, s => .cons h (DqAll.append t s)
theorem DqAll.take : ∀ {vs : List V} {ds : List PyData} (n : Nat), DqAll K F vs ds → DqAll K F (vs.take n) (ds.take n)
  | _, _, 0, _ => .nil
  | _, _, _ + 1, .nil => .nil
  | _, _, n + 1, .cons h t => .cons h (DqAll.take n t)
theorem DqAll.drop : ∀ {vs : List V} {ds : List PyData} (n : Nat), DqAll K F vs ds → DqAll K F (vs.drop n) (ds.drop n)
  | _, _, 0, r => r
  | _, _, _ + 1, .nil => .nil
  | _, _, n + 1, .cons _ t => DqAll.drop n t
theorem DqAll.set {v : V} {d : PyData} (r : Dq K F v d) : ∀ {vs : List V} {ds : List PyData} (i : Nat), DqAll K F vs ds → DqAll K F (vs.set i v) (ds.set i d)
  | _, _, _, .nil => .nil
  | _, _, 0, .cons _ t => .cons r t
  | _, _, i + 1, .cons q t => .cons q (DqAll.set r i t)
theorem DqAll.eraseIdx : ∀ {vs : List V} {ds : List PyData} (i : Nat), DqAll K F vs ds → DqAll K F (vs.eraseIdx i) (ds.eraseIdx i)
  | _, _, _, .nil => .nil
  | _, _, 0, .cons _ t => t
  | _, _, i + 1, .cons q t => .cons q (DqAll.eraseIdx i t)
theorem DqAll.reverse {vs : List V} {ds : List PyData} (h : DqAll K F vs ds) : DqAll K F vs.reverse ds.reverse := by
  induction vs generalizing ds with
  | nil => cases h; exact .nil
  | cons v vs ih =>
    cases h with
    | cons h t =>
      rw [List.reverse_cons, List.reverse_cons]
      exact DqAll.append (ih t) (.cons h .nil)
theorem DqAll.dropLast {vs : List V} {ds : List PyData} (h : DqAll K F vs ds) : DqAll K F vs.dropLast ds.dropLast := by
  rw [List.dropLast_eq_take, List.dropLast_eq_take, h.length]
  exact h.take _
theorem DqAll.ints : ∀ {vs : List V} {ns : List Int}, DqAll K F vs (ns.map .int) → vs = ns.map V.int
  | _, [], h => by cases h; rfl
  | _, n :: ns, h => by
    cases h with
    | cons h t => cases h; rw [DqAll.ints t]; rfl
theorem DqAll.of_ints : ∀ ns : List Int, DqAll K F (ns.map V.int) (ns.map .int)
  | [] => .nil
  | n :: ns => .cons (.int n) (DqAll.of_ints ns)
theorem DqAll.bls : ∀ {vs : List V} {bs : List Bool}, DqAll K F vs (bs.map .bool) → vs = bs.map V.bl
  | _, [], h => by cases h; rfl
  | _, b :: bs, h => by
    cases h with
    | cons h t => cases h; rw [DqAll.bls t]; rfl
theorem DqAll.of_map {α : Type} {f : α → V} {g : α → PyData} : ∀ {l : List α}, (∀ a ∈ l, Dq K F (f a) (g a)) → DqAll K F (l.map f) (l.map g)
  | [], _ => .nil
  | a :: l, h => .cons (h a List.mem_cons_self) (DqAll.of_map fun b hb => h b (List.mem_cons_of_mem _ hb))
end

/-! ### what is owned -/
/-- a mutable thing that is told by its own relation -/
structure Res where
  rel : V → Hp → (Addr → Prop) → Prop
  stay : ∀ {v : V} {H H' : Hp} {fp : Addr → Prop}, rel v H fp → (∀ a, fp a → H' a = H a) → rel v H' fp
  dom : ∀ {v : V} {H : Hp} {fp : Addr → Prop}, rel v H fp → ∀ a, fp a → H a ≠ none
  nt : ∀ {v : V} {H : Hp} {fp : Addr → Prop}, rel v H fp → ∀ a, fp a → ∀ xs, H a ≠ some (.tup xs)
/-- an exception: its class by name, its fields -/
structure Xc where
  cls : Str
  fs : List (Str × PyData)
inductive N where
  | dat (d : PyData)
  | lst (ds : List PyData)
  | dK (kvs : List (Key × PyData))
  | dT (kvs : List (List Key × PyData))
  | dl (kvs : List (Key × PyData))
  | scr (ns : List Int)
  | res (r : Res)
  | exc (a : Addr) (x : Xc) (cls : Value) (d : Option Addr)
/-- a slot of the frame: nothing known, a thing, a thing that the caller owns (it is never stored to) -/
inductive Sl where
  | e
  | v (n : N)
  | p (n : N)
abbrev En := List Sl
def Nil : Addr → Prop := fun _ => False
def One (a : Addr) : Addr → Prop := fun b => b = a
def RelN (K : PySem.W.Frag) (F H : Hp) (n : N) (v : V) (fp : Addr → Prop) : Prop :=
  match n with
  | .dat d => fp = Nil ∧ Dq K F v d
  | .lst ds => ∃ a vs, v = .ref a ∧ fp = One a ∧ H a = some (.lst vs) ∧ DqAll K F vs ds
  | .dK kvs => ∃ a ws, v = .ref a ∧ fp = One a ∧ H a = some (.dK ws) ∧ ws.map (·.1) = kvs.map (·.1) ∧ DqAll K F (ws.map (·.2)) (kvs.map (·.2))
  | .dT kvs => ∃ a ws, v = .ref a ∧ fp = One a ∧ H a = some (.dT ws) ∧ ws.map (·.1) = kvs.map (·.1) ∧ DqAll K F (ws.map (·.2)) (kvs.map (·.2))
  | .dl kvs => fp = Nil ∧ ∃ a od ws, v = .ref a ∧ F a = some (.frz od (.dK ws)) ∧ ws.map (·.1) = kvs.map (·.1) ∧ DqAll K F (ws.map (·.2)) (kvs.map (·.2))
  | .scr ns => fp = Nil ∧ ∃ a, v = .ref a ∧ SqL K F a (ns.map V.int)
  | .res r => r.rel v H fp
  | .exc a x _ d => fp = Nil ∧ v = .ref a ∧ ((x.fs = [] ∧ d = none) ∨ ∃ dx fs, d = some dx ∧ F dx = some (.xd fs) ∧ fs.map (·.1) = x.fs.map (·.1) ∧ DqAll K F (fs.map (·.2)) (x.fs.map (·.2)))
theorem RelN.dom {K : PySem.W.Frag} {F H : Hp} {n : N} {v : V} {fp : Addr → Prop} (h : RelN K F H n v fp) : ∀ a, fp a → H a ≠ none := by
  intro a ha
  cases n with
  | dat d => obtain ⟨rfl, _⟩ := h; exact ha.elim
  | lst ds => obtain ⟨b, vs, _, rfl, e, _⟩ := h; rw [show a = b from ha, e]; exact fun z => nomatch z
  | dK ds => obtain ⟨b, vs, _, rfl, e, _⟩ := h; rw [show a = b from ha, e]; exact fun z => nomatch z
  | dT ds => obtain ⟨b, vs, _, rfl, e, _⟩ := h; rw [show a = b from ha, e]; exact fun z => nomatch z
  | dl ds => obtain ⟨rfl, _⟩ := h; exact ha.elim
  | scr ds => obtain ⟨rfl, _⟩ := h; exact ha.elim
  | res r => exact r.dom h a ha
  | exc => obtain ⟨rfl, _⟩ := h; exact ha.elim
/-- no tuple is owned -/
theorem RelN.nt {K : PySem.W.Frag} {F H : Hp} {n : N} {v : V} {fp : Addr → Prop} (h : RelN K F H n v fp) : ∀ a, fp a → ∀ xs, H a ≠ some (.tup xs) := by
  intro a ha xs
  cases n with
  | dat d => obtain ⟨rfl, _⟩ := h; exact ha.elim
  | lst ds => obtain ⟨b, vs, _, rfl, e, _⟩ := h; rw [show a = b from ha, e]; exact fun z => nomatch z
  | dK ds => obtain ⟨b, vs, _, rfl, e, _⟩ := h; rw [show a = b from ha, e]; exact fun z => nomatch z
  | dT ds => obtain ⟨b, vs, _, rfl, e, _⟩ := h; rw [show a = b from ha, e]; exact fun z => nomatch z
  | dl ds => obtain ⟨rfl, _⟩ := h; exact ha.elim
  | scr ds => obtain ⟨rfl, _⟩ := h; exact ha.elim
  | res r => exact r.nt h a ha xs
  | exc => obtain ⟨rfl, _⟩ := h; exact ha.elim
/-- a thing is what it was where the frozen part grew and its own addresses are untouched -/
theorem RelN.stay {K : PySem.W.Frag} {F F' H H' : Hp} {n : N} {v : V} {fp : Addr → Prop} (h : RelN K F H n v fp) (s : Same F F') (k : ∀ a, fp a → H' a = H a) : RelN K F' H' n v fp := by
  cases n with
  | dat d => exact ⟨h.1, h.2.mono s⟩
  | lst ds => obtain ⟨b, vs, e1, rfl, e, q⟩ := h; exact ⟨b, vs, e1, rfl, by rw [k b rfl]; exact e, q.mono s⟩
  | dK ds => obtain ⟨b, vs, e1, rfl, e, q, r⟩ := h; exact ⟨b, vs, e1, rfl, by rw [k b rfl]; exact e, q, r.mono s⟩
  | dT ds => obtain ⟨b, vs, e1, rfl, e, q, r⟩ := h; exact ⟨b, vs, e1, rfl, by rw [k b rfl]; exact e, q, r.mono s⟩
  | dl ds => obtain ⟨e1, b, od, ws, e2, e3, e4, q⟩ := h; exact ⟨e1, b, od, ws, e2, s _ _ e3, e4, q.mono s⟩
  | scr ds => obtain ⟨e1, b, e2, q⟩ := h; exact ⟨e1, b, e2, s.seq q⟩
  | res r => exact r.stay h k
  | exc a x c d => exact ⟨h.1, h.2.1, h.2.2.imp id fun ⟨dx, fs, e1, e2, e3, q⟩ => ⟨dx, fs, e1, s _ _ e2, e3, q.mono s⟩⟩

/-- the slots, each thing with its own addresses -/
structure RelS (K : PySem.W.Frag) (F H : Hp) (ρ : En) (σ : L2.St) (fps : Nat → Addr → Prop) : Prop where
  len : ρ.length = σ.length
  rel : ∀ (i : Nat) (n : N), (ρ[i]? = some (.v n) ∨ ρ[i]? = some (.p n)) → ∃ v, σ[i]? = some (some v) ∧ RelN K F H n v (fps i)
  emp : ∀ i : Nat, (∀ n, ρ[i]? ≠ some (.v n)) → (∀ n, ρ[i]? ≠ some (.p n)) → fps i = Nil
  dis : ∀ (i j : Nat) (a : Addr), i ≠ j → fps i a → ¬ fps j a
def Ow (fps : Nat → Addr → Prop) : Addr → Prop := fun a => ∃ i, fps i a
/-- from a state to a later one: O is owned (may change), F frozen -/
structure Tr (F H : Hp) (O : Addr → Prop) (F' H' : Hp) (O' : Addr → Prop) : Prop where
  grow : Same F F'
  new : ∀ b, F b = none → F' b ≠ none → O b ∨ H b = none ∨ ∃ xs, H b = some (.tup xs)
  keep : ∀ b o, H b = some o → ¬ O b → H' b = some o
  sub : ∀ b, O' b → O b ∨ H b = none
/-- a state is right -/
structure Wf (F H : Hp) (O : Addr → Prop) : Prop where
  sub : Same F H
  out : ∀ b, O b → F b = none
  dom : ∀ b, O b → H b ≠ none
theorem Tr.refl {F H : Hp} {O : Addr → Prop} : Tr F H O F H O := ⟨Same.refl _, fun b h h' => absurd h h', fun _ _ e _ => e, fun b h => .inl h⟩
theorem Tr.trans {F F1 F2 H H1 H2 : Hp} {O O1 O2 : Addr → Prop} (a : Tr F H O F1 H1 O1) (b : Tr F1 H1 O1 F2 H2 O2) : Tr F H O F2 H2 O2 where
  grow := a.grow.trans b.grow
  new := fun c h h' => by
    by_cases q : F1 c = none
    · rcases b.new c q h' with z | z
      · exact (a.sub c z).imp id .inl
      · by_cases o : O c
        · exact .inl o
        · cases e : H c with
          | none => exact .inr (.inl rfl)
          | some u =>
            rw [a.keep c u e o] at z
            rcases z with z | ⟨xs, z⟩
            · cases z
            · exact .inr (.inr ⟨xs, z⟩)
    · exact a.new c h q
  keep := fun c o e no => by
    have e1 := a.keep c o e no
    refine b.keep c o e1 fun z => ?_
    rcases a.sub c z with z | z
    · exact no z
    · rw [e] at z; cases z
  sub := fun c z => by
    rcases b.sub c z with z | z
    · exact a.sub c z
    · by_cases o : O c
      · exact .inl o
      · cases e : H c with
        | none => exact .inr rfl
        | some u => rw [a.keep c u e o] at z; cases z
theorem Tr.less {F F' H H' : Hp} {O O' O'' : Addr → Prop} (a : Tr F H O F' H' O') (h : ∀ b, O'' b → O' b) : Tr F H O F' H' O'' :=
  ⟨a.grow, a.new, a.keep, fun b z => a.sub b (h b z)⟩
/-- a thing held apart stays through a step -/
theorem Tr.held {K : PySem.W.Frag} {F F' H H' : Hp} {O O' : Addr → Prop} {n : N} {v : V} {fp : Addr → Prop} (t : Tr F H O F' H' O') (h : RelN K F H n v fp) (d : ∀ a, fp a → ¬ O a) : RelN K F' H' n v fp := by
  refine h.stay t.grow fun a ha => ?_
  cases e : H a with
  | none => exact absurd e (h.dom a ha)
  | some o => rw [t.keep a o e (d a ha)]
/-- .. and is still no part of what is owned, nor frozen -/
theorem Tr.apart {F F' H H' : Hp} {O O' : Addr → Prop} (t : Tr F H O F' H' O') {a : Addr} (d : ¬ O a) (dm : H a ≠ none) : ¬ O' a := fun z => by
  rcases t.sub a z with z | z
  · exact d z
  · exact dm z
theorem Tr.unfr {F F' H H' : Hp} {O O' : Addr → Prop} (t : Tr F H O F' H' O') {a : Addr} (nf : F a = none) (d : ¬ O a) (dm : H a ≠ none) (nt : ∀ xs, H a ≠ some (.tup xs)) : F' a = none := by
  cases e : F' a with
  | none => rfl
  | some o =>
    rcases t.new a nf (by rw [e]; exact fun z => nomatch z) with z | z | ⟨xs, z⟩
    · exact absurd z d
    · exact absurd z dm
    · exact absurd z (nt xs)
/-- a new frozen object -/
theorem Tr.alloc {F H : Hp} {O : Addr → Prop} {p : Addr} {o : HO} (w : Wf F H O) (h : H p = none) : Tr F H O (upd F p o) (upd H p o) O := by
  have fp : F p = none := by
    cases e : F p with
    | none => rfl
    | some u => rw [w.sub p u e] at h; cases h
  refine ⟨fun b u e => ?_, fun b e e' => ?_, fun b u e _ => ?_, fun b z => .inl z⟩
  · rw [upd_ne (ne_of_none e fp)]; exact e
  · by_cases hb : b = p
    · subst hb; exact .inr (.inl h)
    · rw [upd_ne hb] at e'; exact absurd e e'
  · rw [upd_ne (ne_of_none e h)]; exact e
theorem Wf.alloc {F H : Hp} {O : Addr → Prop} {p : Addr} {o : HO} (w : Wf F H O) (h : H p = none) : Wf (upd F p o) (upd H p o) O := by
  refine ⟨fun b u e => ?_, fun b z => ?_, fun b z => ?_⟩
  · by_cases hb : b = p
    · subst hb; rw [upd_same] at e ⊢; exact e
    · rw [upd_ne hb] at e ⊢; exact w.sub b u e
  · have hb : b ≠ p := fun q => w.dom b z (by rw [q]; exact h)
    rw [upd_ne hb]; exact w.out b z
  · have hb : b ≠ p := fun q => w.dom b z (by rw [q]; exact h)
    rw [upd_ne hb]; exact w.dom b z
theorem Wf.free {F H : Hp} {O : Addr → Prop} {p : Addr} (w : Wf F H O) (h : H p = none) : F p = none := by
  cases e : F p with
  | none => rfl
  | some u => rw [w.sub p u e] at h; cases h
end DL

namespace DL
open PySem PySem.Spec PyProof.Rows L2
abbrev Sg := L2.St
def RelX (K : PySem.W.Frag) (mg : Str → Option Value) (F : Hp) (x : Xc) (cls : Value) (d : Option Addr) : Prop :=
  (∃ C, mg x.cls = some (.ref C) ∧ cls = .ref C) ∧ ((x.fs = [] ∧ d = none) ∨ ∃ dx fs, d = some dx ∧ F dx = some (.xd fs) ∧ fs.map (·.1) = x.fs.map (·.1) ∧ DqAll K F (fs.map (·.2)) (x.fs.map (·.2)))
abbrev EX := Sg → XK
abbrev KX := Xc → En → Prop
abbrev WE := KX → En → (N → En → Prop) → Prop
abbrev WT := KX → En → (Bool → En → Prop) → Prop
/-- an argument: data, or the thing that slot i owns -/
inductive Ar where
  | d (d : PyData)
  | o (i : Nat)
abbrev WX := KX → En → (Ar → En → Prop) → Prop
abbrev WA := KX → En → (List Ar → En → Prop) → Prop
structure DE where
  nx : En → Prop
  rt : N → En → Prop
  bk : En → Prop
  ct : En → Prop
abbrev WS := KX → DE → En → Prop
structure Sta (K : PySem.W.Frag) (F H : Hp) (ρ : En) (σ : Sg) (fps : Nat → Addr → Prop) : Prop where
  wf : Wf F H (Ow fps)
  rs : RelS K F H ρ σ fps
theorem RelS.nt {K : PySem.W.Frag} {F H : Hp} {ρ : En} {σ : Sg} {fps : Nat → Addr → Prop} (r : RelS K F H ρ σ fps) {b : Addr} : Ow fps b → ∀ xs, H b ≠ some (.tup xs) := fun ⟨i, hi⟩ xs => by
  by_cases h : ∃ n, ρ[i]? = some (.v n) ∨ ρ[i]? = some (.p n)
  · obtain ⟨n, h⟩ := h
    obtain ⟨v, _, rn⟩ := r.rel i n h
    exact rn.nt b hi xs
  · rw [r.emp i (fun n e => h ⟨n, .inl e⟩) fun n e => h ⟨n, .inr e⟩] at hi
    exact hi.elim
theorem Sta.nt {K : PySem.W.Frag} {F H : Hp} {ρ : En} {σ : Sg} {fps : Nat → Addr → Prop} (s : Sta K F H ρ σ fps) {b : Addr} : Ow fps b → ∀ xs, H b ≠ some (.tup xs) := s.rs.nt
def Or2 (A B : Addr → Prop) : Addr → Prop := fun a => A a ∨ B a
/-- the caller's things stay in their slots -/
def Pk (ρ : En) (σ : Sg) (ρ' : En) (σ' : Sg) : Prop := ∀ (i : Nat) (n : N), ρ[i]? = some (.p n) → (∃ n', ρ'[i]? = some (.p n')) ∧ σ'[i]? = σ[i]?
theorem Pk.refl {ρ : En} {σ : Sg} : Pk ρ σ ρ σ := fun _ n h => ⟨⟨n, h⟩, rfl⟩
theorem Pk.trans {ρ ρ1 ρ2 : En} {σ σ1 σ2 : Sg} (a : Pk ρ σ ρ1 σ1) (b : Pk ρ1 σ1 ρ2 σ2) : Pk ρ σ ρ2 σ2 := fun i n h =>
  let ⟨⟨n', h1⟩, e1⟩ := a i n h
  let ⟨h2, e2⟩ := b i n' h1
  ⟨h2, e2.trans e1⟩
/-- a state reached -/
structure GotS (K : PySem.W.Frag) (ρ : En) (σ : Sg) (F H : Hp) (fps : Nat → Addr → Prop) (ρ' : En) (σ' : Sg) (F' H' : Hp) (fps' : Nat → Addr → Prop) : Prop where
  tr : Tr F H (Ow fps) F' H' (Ow fps')
  st : Sta K F' H' ρ' σ' fps'
  pk : Pk ρ σ ρ' σ'
/-- .. and a value -/
structure Got (K : PySem.W.Frag) (ρ : En) (σ : Sg) (F H : Hp) (fps : Nat → Addr → Prop) (n : N) (v : V) (ρ' : En) (σ' : Sg) (F' H' : Hp) (fps' : Nat → Addr → Prop) (fv : Addr → Prop) : Prop where
  tr : Tr F H (Ow fps) F' H' (Or2 (Ow fps') fv)
  wf : Wf F' H' (Or2 (Ow fps') fv)
  rs : RelS K F' H' ρ' σ' fps'
  pk : Pk ρ σ ρ' σ'
  rn : RelN K F' H' n v fv
  ap : ∀ a, fv a → ¬ Ow fps' a
/-- an argument and its value -/
inductive RelA (K : PySem.W.Frag) (F : Hp) (σ : Sg) : Ar → V → Prop
  | d {d : PyData} {v : V} : Dq K F v d → RelA K F σ (.d d) v
  | o {i : Nat} {v : V} : σ[i]? = some (some v) → RelA K F σ (.o i) v
inductive RelAr (K : PySem.W.Frag) (F : Hp) (σ : Sg) : List Ar → List V → Prop
  | nil : RelAr K F σ [] []
  | cons {a : Ar} {v : V} {as : List Ar} {vs : List V} : RelA K F σ a v → RelAr K F σ as vs → RelAr K F σ (a :: as) (v :: vs)
theorem RelA.mono {K : PySem.W.Frag} {F F' : Hp} {σ : Sg} {a : Ar} {v : V} (s : Same F F') : RelA K F σ a v → RelA K F' σ a v
  | .d q => .d (q.mono s)
  | .o q => .o q
/-- what is wanted of exceptions, from a state on -/
def ZC (K : PySem.W.Frag) (mg : Str → Option Value) (E : EX) (ρ : En) (σ : Sg) (F H : Hp) (fps : Nat → Addr → Prop) (Z : KX) : Prop :=
  ∀ x ρ' σ' F' H' fps' cls d, GotS K ρ σ F H fps ρ' σ' F' H' fps' → RelX K mg F' x cls d → Z x ρ' → E σ' cls d H'
section
variable {K : PySem.W.Frag} {mg : Str → Option Value} {E : EX} {σ σ' σ1 σ2 : Sg} {F H F' H' F1 H1 F2 H2 : Hp} {fps fps1 fps2 fps' : Nat → Addr → Prop} {O O' fv : Addr → Prop} {Z : KX} {n : N} {v : V} {ρ ρ' ρ1 ρ2 : En}
theorem GotS.refl (s : Sta K F H ρ σ fps) : GotS K ρ σ F H fps ρ σ F H fps := ⟨.refl, s, .refl⟩
theorem GotS.trans (a : GotS K ρ σ F H fps ρ1 σ1 F1 H1 fps1) (b : GotS K ρ1 σ1 F1 H1 fps1 ρ2 σ2 F2 H2 fps2) : GotS K ρ σ F H fps ρ2 σ2 F2 H2 fps2 := ⟨a.tr.trans b.tr, b.st, a.pk.trans b.pk⟩
theorem ZC.step (z : ZC K mg E ρ σ F H fps Z) (t : GotS K ρ σ F H fps ρ1 σ1 F1 H1 fps1) : ZC K mg E ρ1 σ1 F1 H1 fps1 Z := fun x ρ' σ' F2 H2 fps2 cls d t2 r q => z x ρ' σ' F2 H2 fps2 cls d (t.trans t2) r q
theorem Wf.less (w : Wf F H O) (h : ∀ b, O' b → O b) : Wf F H O' := ⟨w.sub, fun b z => w.out b (h b z), fun b z => w.dom b (h b z)⟩
theorem Got.s (g : Got K ρ σ F H fps n v ρ' σ' F' H' fps' fv) : GotS K ρ σ F H fps ρ' σ' F' H' fps' := ⟨g.tr.less fun _ h => .inl h, ⟨g.wf.less fun _ h => .inl h, g.rs⟩, g.pk⟩
theorem Got.st (g : Got K ρ σ F H fps n v ρ' σ' F' H' fps' fv) : Sta K F' H' ρ' σ' fps' := g.s.st
/-- data, nothing owned -/
theorem Got.of {d : PyData} (t : GotS K ρ σ F H fps ρ' σ' F' H' fps') (q : Dq K F' v d) : Got K ρ σ F H fps (.dat d) v ρ' σ' F' H' fps' Nil :=
  ⟨⟨t.tr.grow, t.tr.new, t.tr.keep, fun b h => h.elim (t.tr.sub b) fun z => z.elim⟩, ⟨t.st.wf.sub, fun b h => h.elim (t.st.wf.out b) fun z => z.elim, fun b h => h.elim (t.st.wf.dom b) fun z => z.elim⟩, t.st.rs, t.pk, ⟨rfl, q⟩, fun _ z => z.elim⟩
/-- data in the same state -/
theorem Got.here {d : PyData} (s : Sta K F H ρ σ fps) (q : Dq K F v d) : Got K ρ σ F H fps (.dat d) v ρ σ F H fps Nil := Got.of (.refl s) q
/-- a step ahead of it -/
theorem Got.after (t : GotS K ρ σ F H fps ρ1 σ1 F1 H1 fps1) (g : Got K ρ1 σ1 F1 H1 fps1 n v ρ' σ' F' H' fps' fv) : Got K ρ σ F H fps n v ρ' σ' F' H' fps' fv := ⟨t.tr.trans g.tr, g.wf, g.rs, t.pk.trans g.pk, g.rn, g.ap⟩
/-- the state with one more frozen object -/
theorem RelS.stay (r : RelS K F H ρ σ fps) (s : Same F F') (k : ∀ a, Ow fps a → H' a = H a) : RelS K F' H' ρ σ fps :=
  ⟨r.len, fun i n e => let ⟨v, h1, h2⟩ := r.rel i n e; ⟨v, h1, h2.stay s fun a ha => k a ⟨i, ha⟩⟩, r.emp, r.dis⟩
theorem Sta.alloc {p : Addr} {o : HO} (s : Sta K F H ρ σ fps) (h : H p = none) : GotS K ρ σ F H fps ρ σ (upd F p o) (upd H p o) fps := by
  refine ⟨Tr.alloc s.wf h, ⟨s.wf.alloc h, s.rs.stay (Tr.alloc (O := Ow fps) s.wf h).grow fun a ha => ?_⟩, .refl⟩
  rw [upd_ne fun z => s.wf.dom a ha (by rw [z]; exact h)]
/-- a new object that is the value's own -/
theorem own_tr {p : Addr} {o : HO} (s : Sta K F H ρ σ fps) (h : H p = none) : Tr F H (Ow fps) F (upd H p o) (Or2 (Ow fps) (One p)) ∧ Wf F (upd H p o) (Or2 (Ow fps) (One p)) ∧ RelS K F (upd H p o) ρ σ fps ∧ (∀ a, One p a → ¬ Ow fps a) := by
  have np : ∀ a, Ow fps a → a ≠ p := fun a ha z => s.wf.dom a ha (by rw [z]; exact h)
  refine ⟨⟨Same.refl _, fun b e e' => absurd e e', fun b u e _ => ?_, fun b z => ?_⟩, ⟨fun b u e => ?_, fun b z => ?_, fun b z => ?_⟩, s.rs.stay (Same.refl _) fun a ha => ?_, fun a z ha => np a ha z⟩
  · rw [upd_ne (ne_of_none e h)]; exact e
  · rcases z with z | z
    · exact .inl z
    · exact .inr (by rw [show b = p from z]; exact h)
  · have hb : b ≠ p := fun q => by rw [q, s.wf.free h] at e; cases e
    rw [upd_ne hb]; exact s.wf.sub b u e
  · rcases z with z | z
    · exact s.wf.out b z
    · rw [show b = p from z]; exact s.wf.free h
  · rcases z with z | z
    · rw [upd_ne (np b z)]; exact s.wf.dom b z
    · rw [show b = p from z, upd_same]; exact fun q => nomatch q
  · rw [upd_ne (np a ha)]
theorem Got.lst {p : Addr} {vs : List V} {ds : List PyData} (s : Sta K F H ρ σ fps) (h : H p = none) (q : DqAll K F vs ds) : Got K ρ σ F H fps (.lst ds) (.ref p) ρ σ F (upd H p (.lst vs)) fps (One p) :=
  let ⟨a, b, c, d⟩ := own_tr (o := .lst vs) s h
  ⟨a, b, c, .refl, ⟨p, vs, rfl, rfl, upd_same, q⟩, d⟩
theorem Got.dK {p : Addr} {ws : List (Key × V)} {kvs : List (Key × PyData)} (s : Sta K F H ρ σ fps) (h : H p = none) (k : ws.map (·.1) = kvs.map (·.1)) (q : DqAll K F (ws.map (·.2)) (kvs.map (·.2))) : Got K ρ σ F H fps (.dK kvs) (.ref p) ρ σ F (upd H p (.dK ws)) fps (One p) :=
  let ⟨a, b, c, d⟩ := own_tr (o := .dK ws) s h
  ⟨a, b, c, .refl, ⟨p, ws, rfl, rfl, upd_same, k, q⟩, d⟩
theorem Got.dT {p : Addr} {ws : List (List Key × V)} {kvs : List (List Key × PyData)} (s : Sta K F H ρ σ fps) (h : H p = none) (k : ws.map (·.1) = kvs.map (·.1)) (q : DqAll K F (ws.map (·.2)) (kvs.map (·.2))) : Got K ρ σ F H fps (.dT kvs) (.ref p) ρ σ F (upd H p (.dT ws)) fps (One p) :=
  let ⟨a, b, c, d⟩ := own_tr (o := .dT ws) s h
  ⟨a, b, c, .refl, ⟨p, ws, rfl, rfl, upd_same, k, q⟩, d⟩
theorem Got.dK0 {p : Addr} (s : Sta K F H ρ σ fps) (h : H p = none) : Got K ρ σ F H fps (.dK []) (.ref p) ρ σ F (upd H p (.dK [])) fps (One p) :=
  let ⟨a, b, c, d⟩ := own_tr (o := .dK []) s h
  ⟨a, b, c, .refl, ⟨p, [], rfl, rfl, upd_same, rfl, .nil⟩, d⟩
theorem Got.dT0 {p : Addr} (s : Sta K F H ρ σ fps) (h : H p = none) : Got K ρ σ F H fps (.dT []) (.ref p) ρ σ F (upd H p (.dT [])) fps (One p) :=
  let ⟨a, b, c, d⟩ := own_tr (o := .dT []) s h
  ⟨a, b, c, .refl, ⟨p, [], rfl, rfl, upd_same, rfl, .nil⟩, d⟩
theorem Got.tup {p : Addr} {o : Obj} {vs : List V} {ds : List PyData} (s : Sta K F H ρ σ fps) (h : H p = none) (ho : o.dict = none) (q : DqAll K F vs ds) : Got K ρ σ F H fps (.dat (.tuple ds)) (.ref p) ρ σ (upd F p (tupO o vs)) (upd H p (tupO o vs)) fps Nil :=
  have t := s.alloc (o := tupO o vs) h
  Got.of t (.tup (.new ho) (q.mono t.tr.grow))
def noO : Obj := { cls := .none, data := .fields #[] }
theorem tupO_k {o : Obj} {vs : List V} (h : tupK vs = true) : tupO o vs = .tup vs := if_pos h
theorem Got.tupK {p : Addr} {vs : List V} {ds : List PyData} (s : Sta K F H ρ σ fps) (h : H p = none) (hk : tupK vs = true) (q : DqAll K F vs ds) : Got K ρ σ F H fps (.dat (.tuple ds)) (.ref p) ρ σ (upd F p (.tup vs)) (upd H p (.tup vs)) fps Nil := by
  have g := Got.tup (o := noO) s h rfl q
  rw [tupO_k hk] at g
  exact g
/-- a thing that may be frozen, frozen -/
def asD (n : N) (k : PyData → Prop) : Prop := match n with
  | .dat d => k d
  | .lst ds => k (.list ds)
  | .dK kvs => kvs ≠ [] ∧ k (encK kvs)
  | .dT kvs => k (encT kvs)
  | _ => False
theorem Got.froze {k : PyData → Prop} (g : Got K ρ σ F H fps n v ρ' σ' F' H' fps' fv) (h : asD n k) : ∃ d F'', k d ∧ GotS K ρ σ F H fps ρ' σ' F'' H' fps' ∧ Dq K F'' v d := by
  have put : ∀ (a : Addr) (o : HO), fv = One a → H' a = some o → GotS K ρ σ F H fps ρ' σ' (upd F' a o) H' fps' ∧ Same F' (upd F' a o) := fun a o e ho => by
    subst e
    have fa : F' a = none := g.wf.out a (.inr rfl)
    have gr : Same F' (upd F' a o) := fun b u e => by rw [upd_ne (ne_of_none e fa)]; exact e
    refine ⟨⟨⟨g.tr.grow.trans gr, fun b e e' => ?_, g.tr.keep, fun b z => g.tr.sub b (.inl z)⟩, ⟨⟨fun b u e => ?_, fun b z => ?_, fun b z => g.wf.dom b (.inl z)⟩, g.rs.stay gr fun _ _ => rfl⟩, g.pk⟩, gr⟩
    · by_cases hb : b = a
      · subst hb; exact (g.tr.sub b (.inr rfl)).imp id .inl
      · rw [upd_ne hb] at e'; exact g.tr.new b e e'
    · by_cases hb : b = a
      · subst hb; rw [upd_same] at e; rw [ho]; exact e
      · rw [upd_ne hb] at e; exact g.wf.sub b u e
    · have hb : b ≠ a := fun q => by subst q; exact g.ap b rfl z
      rw [upd_ne hb]; exact g.wf.out b (.inl z)
  cases n with
  | dat d => exact ⟨d, F', h, g.s, g.rn.2⟩
  | lst ds =>
    obtain ⟨a, vs, e1, e2, e3, q⟩ := g.rn
    obtain ⟨t, gr⟩ := put a _ e2 e3
    exact ⟨_, _, h, t, e1 ▸ .lst upd_same (q.mono gr)⟩
  | dK kvs =>
    obtain ⟨a, ws, e1, e2, e3, q, r⟩ := g.rn
    obtain ⟨t, gr⟩ := put a _ e2 e3
    exact ⟨_, _, h.2, t, e1 ▸ .dK (.inl upd_same) q (r.mono gr) ⟨rfl, h.1⟩⟩
  | dT kvs =>
    obtain ⟨a, ws, e1, e2, e3, q, r⟩ := g.rn
    obtain ⟨t, gr⟩ := put a _ e2 e3
    exact ⟨_, _, h, t, e1 ▸ .dT (.inl upd_same) q (r.mono gr) rfl⟩
  | dl ns => exact h.elim
  | scr ns => exact h.elim
  | res r => exact h.elim
  | exc => exact h.elim
end

/-! ### readings -/
def rd (K : PySem.W.Frag) (mg : Str → Option Value) (E : EX) (w : WE) : TE := fun σ H Q' => ∃ ρ F fps Z Q, Sta K F H ρ σ fps ∧ w Z ρ Q ∧ ZC K mg E ρ σ F H fps Z ∧
  ∀ n v ρ' F' H' fps' fv, Got K ρ σ F H fps n v ρ' σ F' H' fps' fv → Q n ρ' → Q' v H'
def rt (K : PySem.W.Frag) (mg : Str → Option Value) (E : EX) (w : WT) : TT := fun σ H Q' => ∃ ρ F fps Z Q, Sta K F H ρ σ fps ∧ w Z ρ Q ∧ ZC K mg E ρ σ F H fps Z ∧
  ∀ b ρ' F' H' fps', GotS K ρ σ F H fps ρ' σ F' H' fps' → Q b ρ' → Q' b H'
def rx (K : PySem.W.Frag) (mg : Str → Option Value) (E : EX) (w : WX) : TE := fun σ H Q' => ∃ ρ F fps Z Q, Sta K F H ρ σ fps ∧ w Z ρ Q ∧ ZC K mg E ρ σ F H fps Z ∧
  ∀ a v ρ' F' H' fps', GotS K ρ σ F H fps ρ' σ F' H' fps' → RelA K F' σ a v → Q a ρ' → Q' v H'
def ra (K : PySem.W.Frag) (mg : Str → Option Value) (E : EX) (w : WA) : TA := fun σ H Q' => ∃ ρ F fps Z Q, Sta K F H ρ σ fps ∧ w Z ρ Q ∧ ZC K mg E ρ σ F H fps Z ∧
  ∀ as vs ρ' F' H' fps', GotS K ρ σ F H fps ρ' σ F' H' fps' → RelAr K F' σ as vs → Q as ρ' → Q' vs H'
def rs (K : PySem.W.Frag) (mg : Str → Option Value) (E : EX) (w : WS) : TS := fun D σ H => ∃ ρ F fps Z DD, Sta K F H ρ σ fps ∧ w Z DD ρ ∧ ZC K mg E ρ σ F H fps Z ∧
  (∀ ρ' σ' F' H' fps', GotS K ρ σ F H fps ρ' σ' F' H' fps' → (DD.nx ρ' → D.nx σ' H') ∧ (DD.bk ρ' → D.bk σ' H') ∧ (DD.ct ρ' → D.ct σ' H')) ∧
  ∀ n v ρ' σ' F' H' fps' fv, Got K ρ σ F H fps n v ρ' σ' F' H' fps' fv → DD.rt n ρ' → D.rt v H'
theorem pe_imp {X : Cx} {e : Expr} {t t' : TE} (h : PE X e t) (i : ∀ σ H Q, t' σ H Q → t σ H Q) : PE X e t' := ⟨fun pins s σ H Q I q => h.run pins s σ H Q I (i σ H Q q)⟩
theorem pt_imp {X : Cx} {e : Expr} {t t' : TT} (h : PT X e t) (i : ∀ σ H Q, t' σ H Q → t σ H Q) : PT X e t' := ⟨fun pins s σ H Q I q => h.run pins s σ H Q I (i σ H Q q)⟩
theorem pa_imp {X : Cx} {es : List Expr} {t t' : TA} (h : PA X es t) (i : ∀ σ H Q, t' σ H Q → t σ H Q) : PA X es t' := ⟨fun pos pins s σ H Q I q => h.run pos pins s σ H Q I (i σ H Q q)⟩
theorem ps_imp {X : Cx} {e : Stmt} {t t' : TS} (h : PS X e t) (i : ∀ D σ H, t' D σ H → t D σ H) : PS X e t' := ⟨fun pins s σ H D I q => h.run pins s σ H D I (i D σ H q)⟩
theorem pss_imp {X : Cx} {e : List Stmt} {t t' : TS} (h : PSs X e t) (i : ∀ D σ H, t' D σ H → t D σ H) : PSs X e t' := ⟨fun pins s σ H D I q => h.run pins s σ H D I (i D σ H q)⟩
end DL

namespace DL
open PySem PySem.Spec PyProof.Rows L2
/-- what an operation on data makes -/
inductive Grow (K : PySem.W.Frag) (F H : Hp) : N → V → Hp → Hp → (Addr → Prop) → Prop
  | dat {d : PyData} {v : V} : Dq K F v d → Grow K F H (.dat d) v F H Nil
  | tup {p : Addr} {o : Obj} {vs : List V} {ds : List PyData} : H p = none → o.dict = none → DqAll K F vs ds → Grow K F H (.dat (.tuple ds)) (.ref p) (upd F p (tupO o vs)) (upd H p (tupO o vs)) Nil
  | lst {p : Addr} {vs : List V} {ds : List PyData} : H p = none → DqAll K F vs ds → Grow K F H (.lst ds) (.ref p) F (upd H p (.lst vs)) (One p)
  | dK {p : Addr} {ws : List (Key × V)} {kvs : List (Key × PyData)} : H p = none → ws.map (·.1) = kvs.map (·.1) → DqAll K F (ws.map (·.2)) (kvs.map (·.2)) → Grow K F H (.dK kvs) (.ref p) F (upd H p (.dK ws)) (One p)
  | dT {p : Addr} {ws : List (List Key × V)} {kvs : List (List Key × PyData)} : H p = none → ws.map (·.1) = kvs.map (·.1) → DqAll K F (ws.map (·.2)) (kvs.map (·.2)) → Grow K F H (.dT kvs) (.ref p) F (upd H p (.dT ws)) (One p)
/-- a tuple whose object is not known, of known data -/
def DqW (K : PySem.W.Frag) (F : Hp) (v : V) (d : PyData) : Prop := Dq K F v d ∨ ∃ a xs ds, v = .ref a ∧ d = .tuple ds ∧ SqT K F a xs ∧ DqAll K F xs ds
def DqB (l : Bool) (K : PySem.W.Frag) (F : Hp) (v : V) (d : PyData) : Prop := match l with
  | true => DqW K F v d
  | false => Dq K F v d
theorem DqB.of {l : Bool} {K : PySem.W.Frag} {F : Hp} {v : V} {d : PyData} (h : Dq K F v d) : DqB l K F v d := by
  cases l with
  | true => exact .inl h
  | false => exact h
section
variable {K : PySem.W.Frag} {mg : Str → Option Value} {E : EX} {σ σ' σ1 : Sg} {F H F' H' F1 H1 : Hp} {fps fps1 fps' : Nat → Addr → Prop} {fv : Addr → Prop} {Z : KX} {n : N} {v : V} {ρ ρ' ρ1 : En}
theorem Grow.tupK {p : Addr} {vs : List V} {ds : List PyData} (h : H p = none) (hk : tupK vs = true) (q : DqAll K F vs ds) : Grow K F H (.dat (.tuple ds)) (.ref p) (upd F p (.tup vs)) (upd H p (.tup vs)) Nil := by
  have g := Grow.tup (o := noO) (K := K) (F := F) h rfl q
  rw [tupO_k hk] at g
  exact g
theorem Grow.got (g : Grow K F H n v F' H' fv) (s : Sta K F H ρ σ fps) : Got K ρ σ F H fps n v ρ σ F' H' fps fv := by
  cases g with
  | dat q => exact .here s q
  | tup h ho q => exact .tup s h ho q
  | lst h q => exact .lst s h q
  | dK h k q => exact .dK s h k q
  | dT h k q => exact .dT s h k q
/-- a part is evaluated, frozen, and goes on -/
theorem part {w : WE} {k : PyData → En → Prop} {Q' : VK} (st : Sta K F H ρ σ fps) (zc : ZC K mg E ρ σ F H fps Z)
    (h : w Z ρ fun n ρ1 => asD n fun d => k d ρ1)
    (go : ∀ d v ρ1 F1 H1 fps1, GotS K ρ σ F H fps ρ1 σ F1 H1 fps1 → Dq K F1 v d → k d ρ1 → Q' v H1) : rd K mg E w σ H Q' :=
  ⟨ρ, F, fps, Z, _, st, h, zc, fun n v ρ1 F1 H1 fps1 fv g q => by
    obtain ⟨d, F2, kd, gs, dq⟩ := g.froze q
    exact go d v ρ1 F2 H1 fps1 gs dq kd⟩
end

theorem okRd {X : Cx} {pins : List (Addr × Obj)} {σ : Sg} {H : Hp} {s : Shared} {a : Addr} {u : HO} (I : Inv X pins σ H s) : Rd H a u → ObjOk X.prog X.w H s.heap a u
  | .inl h => I.hok _ _ h
  | .inr ⟨_, h⟩ => (I.hok _ _ h).2
/-! ### constants, names -/
def wC (d : PyData) : WE := fun _ ρ Q => Q (.dat d) ρ
/-- a name: data; an own list is frozen by it -/
def wV (i : Nat) : WE := fun _ ρ Q => match ρ[i]? with
  | some (.v (.dat d)) => Q (.dat d) ρ
  | some (.v (.lst ds)) => Q (.dat (.list ds)) (ρ.set i (.v (.dat (.list ds))))
  | some (.v (.dK kvs)) => kvs ≠ [] ∧ Q (.dat (encK kvs)) (ρ.set i (.v (.dat (encK kvs))))
  | some (.v (.dT kvs)) => Q (.dat (encT kvs)) (ρ.set i (.v (.dat (encT kvs))))
  | _ => False
/-- a name whose thing moves out of it -/
def wM (i : Nat) : WE := fun _ ρ Q => match ρ[i]? with
  | some (.v n) => Q n (ρ.set i .e)
  | _ => False
section
variable {X : Cx} {E : EX}
theorem rd_const {d : PyData} {v : V} (hq : ∀ F, Dq X.K F v d) : ∀ σ H Q, rd X.K X.mg E (wC d) σ H Q → tC v σ H Q := fun σ H Q ⟨ρ, F, fps, Z, Qd, st, h, zc, k⟩ => k _ _ _ _ _ _ _ (.here st (hq F)) h
theorem d_int {i j pos} : PE X (.Constant (.int i) j pos) (rd X.K X.mg E (wC (.int i))) := pe_imp pe_int (rd_const fun _ => .int i)
theorem d_bl {b j pos} : PE X (.Constant (.bool b) j pos) (rd X.K X.mg E (wC (.bool b))) := pe_imp pe_bl (rd_const fun _ => .bl b)
theorem d_non {j pos} : PE X (.Constant .none j pos) (rd X.K X.mg E (wC .none)) := pe_imp pe_non (rd_const fun _ => .non)
theorem d_str {x j pos} : PE X (.Constant (.str x) j pos) (rd X.K X.mg E (wC (.str x))) := pe_imp pe_str (rd_const fun _ => .str x)
section
variable {K : PySem.W.Frag} {σ : Sg} {F H : Hp} {fps : Nat → Addr → Prop} {ρ : En}
def setF (fps : Nat → Addr → Prop) (i : Nat) (f : Addr → Prop) : Nat → Addr → Prop := fun j => if j = i then f else fps j
theorem setF_same' {fps : Nat → Addr → Prop} {i j : Nat} {f : Addr → Prop} (h : j = i) : setF fps i f j = f := if_pos h
theorem setF_ne {fps : Nat → Addr → Prop} {i j : Nat} {f : Addr → Prop} (h : j ≠ i) : setF fps i f j = fps j := if_neg h
/-- a slot's thing leaves it -/
theorem Sta.move {i : Nat} {n : N} {v : V} (s : Sta K F H ρ σ fps) (h : ρ[i]? = some (.v n)) (hv : σ[i]? = some (some v)) (rn : RelN K F H n v (fps i)) :
    Got K ρ σ F H fps n v (ρ.set i .e) σ F H (setF fps i Nil) (fps i) := by
  have hi : i < ρ.length := (List.getElem?_eq_some_iff.mp h).1
  have sub : ∀ b, Ow (setF fps i Nil) b → Ow fps b := fun b ⟨j, hj⟩ => by
    by_cases e : j = i
    · rw [setF_same' e] at hj; exact hj.elim
    · rw [setF_ne e] at hj; exact ⟨j, hj⟩
  have sub2 : ∀ b, Or2 (Ow (setF fps i Nil)) (fps i) b → Ow fps b := fun b z => z.elim (sub b) fun z => ⟨i, z⟩
  refine ⟨Tr.refl.less sub2, s.wf.less sub2, ⟨by rw [List.length_set]; exact s.rs.len, fun j m e => ?_, fun j h1 h2 => ?_, fun j l a hjl hj hl => ?_⟩, fun j m e => ⟨?_, rfl⟩, rn, fun a ha ⟨j, hj⟩ => ?_⟩
  · by_cases ej : i = j
    · subst ej
      rw [List.getElem?_set_self hi] at e
      rcases e with e | e <;> cases e
    · rw [List.getElem?_set_ne ej] at e
      rw [setF_ne (Ne.symm ej)]
      exact s.rs.rel j m e
  · by_cases ej : i = j
    · rw [setF_same' ej.symm]
    · rw [setF_ne (Ne.symm ej)]
      refine s.rs.emp j (fun n => ?_) fun n => ?_
      · have := h1 n; rw [List.getElem?_set_ne ej] at this; exact this
      · have := h2 n; rw [List.getElem?_set_ne ej] at this; exact this
  · by_cases e1 : j = i
    · rw [setF_same' e1] at hj; exact hj
    · by_cases e2 : l = i
      · rw [setF_same' e2] at hl; exact hl
      · rw [setF_ne e1] at hj; rw [setF_ne e2] at hl; exact s.rs.dis j l a hjl hj hl
  · by_cases ej : i = j
    · subst ej; rw [h] at e; cases e
    · rw [List.getElem?_set_ne ej]; exact ⟨m, e⟩
  · by_cases e1 : j = i
    · rw [setF_same' e1] at hj; exact hj
    · rw [setF_ne e1] at hj; exact s.rs.dis i j a (Ne.symm e1) ha hj
/-- data into a slot whose value it is -/
theorem RelS.putD {i : Nat} {d : PyData} {v : V} (r : RelS K F H ρ σ fps) (hi : i < ρ.length) (he : fps i = Nil) (hv : σ[i]? = some (some v)) (q : Dq K F v d) : RelS K F H (ρ.set i (.v (.dat d))) σ fps := by
  refine ⟨by rw [List.length_set]; exact r.len, fun j m e => ?_, fun j h1 h2 => ?_, r.dis⟩
  · by_cases ej : i = j
    · subst ej
      rw [List.getElem?_set_self hi] at e
      rcases e with e | e
      · cases e; exact ⟨v, hv, he, q⟩
      · cases e
    · rw [List.getElem?_set_ne ej] at e
      exact r.rel j m e
  · by_cases ej : i = j
    · subst ej
      exact absurd (List.getElem?_set_self hi) (h1 _)
    · refine r.emp j (fun n => ?_) fun n => ?_
      · have := h1 n; rw [List.getElem?_set_ne ej] at this; exact this
      · have := h2 n; rw [List.getElem?_set_ne ej] at this; exact this
/-- an own list in a slot is frozen there -/
theorem Sta.freeze {i : Nat} {n : N} {k : PyData → Prop} (s : Sta K F H ρ σ fps) (h : ρ[i]? = some (.v n)) (ha : asD n k) :
    ∃ d v F' fps', k d ∧ GotS K ρ σ F H fps (ρ.set i (.v (.dat d))) σ F' H fps' ∧ Dq K F' v d ∧ σ[i]? = some (some v) := by
  obtain ⟨v, hv, rn⟩ := s.rs.rel i n (.inl h)
  have hi : i < ρ.length := (List.getElem?_eq_some_iff.mp h).1
  have g := s.move h hv rn
  obtain ⟨d, F', kd, gs, dq⟩ := g.froze ha
  have r := gs.st.rs.putD (i := i) (by rw [List.length_set]; exact hi) (setF_same' rfl) hv dq
  rw [List.set_set] at r
  refine ⟨d, v, F', _, kd, ⟨gs.tr, ⟨gs.st.wf, r⟩, fun j m e => ⟨?_, rfl⟩⟩, dq, hv⟩
  by_cases ej : i = j
  · subst ej; rw [h] at e; cases e
  · rw [List.getElem?_set_ne ej]; exact ⟨m, e⟩
end
theorem d_var {i : Nat} {x : Str} {pos : Pos} (h : PE X (.Name x pos) (tVar i)) : PE X (.Name x pos) (rd X.K X.mg E (wV i)) := pe_imp h fun σ H Q ⟨ρ, F, fps, Z, Qd, st, hw, zc, k⟩ => by
  unfold wV at hw
  cases e : ρ[i]? with
  | none => rw [e] at hw; exact hw.elim
  | some sl =>
    rw [e] at hw
    cases sl with
    | e => exact hw.elim
    | p n => exact hw.elim
    | v n =>
      cases n with
      | dat d =>
        obtain ⟨v, hv, _, q⟩ := st.rs.rel i _ (.inl e)
        exact ⟨v, hv, k _ _ _ _ _ _ _ (.here st q) hw⟩
      | lst ds =>
        obtain ⟨d, v, F', fps', kd, gs, dq, hv⟩ := st.freeze (k := fun d => d = .list ds) e rfl
        subst kd
        exact ⟨v, hv, k _ _ _ _ _ _ _ (.of gs dq) hw⟩
      | dK kvs =>
        obtain ⟨d, v, F', fps', kd, gs, dq, hv⟩ := st.freeze (k := fun d => d = encK kvs) e ⟨hw.1, rfl⟩
        subst kd
        exact ⟨v, hv, k _ _ _ _ _ _ _ (.of gs dq) hw.2⟩
      | dT kvs =>
        obtain ⟨d, v, F', fps', kd, gs, dq, hv⟩ := st.freeze (k := fun d => d = encT kvs) e rfl
        subst kd
        exact ⟨v, hv, k _ _ _ _ _ _ _ (.of gs dq) hw⟩
      | dl _ => exact hw.elim
      | scr _ => exact hw.elim
      | res _ => exact hw.elim
      | exc => exact hw.elim
theorem d_move {i : Nat} {x : Str} {pos : Pos} (h : PE X (.Name x pos) (tVar i)) : PE X (.Name x pos) (rd X.K X.mg E (wM i)) := pe_imp h fun σ H Q ⟨ρ, F, fps, Z, Qd, st, hw, zc, k⟩ => by
  unfold wM at hw
  cases e : ρ[i]? with
  | none => rw [e] at hw; exact hw.elim
  | some sl =>
    rw [e] at hw
    cases sl with
    | e => exact hw.elim
    | p n => exact hw.elim
    | v n =>
      obtain ⟨v, hv, rn⟩ := st.rs.rel i _ (.inl e)
      exact ⟨v, hv, k _ _ _ _ _ _ _ (st.move e hv rn) hw⟩
end

/-! ### operands: data, or the thing of a slot, as it stands -/
def xD (w : WE) : WX := fun Z ρ Q => w Z ρ fun n ρ1 => asD n fun d => Q (.d d) ρ1
/-- slot i holds a thing -/
def hasT (ρ : En) (i : Nat) : Prop := match ρ[i]? with
  | some (.v _) => True
  | some (.p _) => True
  | _ => False
def xO (i : Nat) : WX := fun _ ρ Q => hasT ρ i ∧ Q (.o i) ρ
def lkN (n : N) (k : PyData → Prop) : Prop := match n with
  | .dat d => k d
  | .lst ds => k (.list ds)
  | .dK kvs => kvs ≠ [] ∧ k (encK kvs)
  | .dT kvs => k (encT kvs)
  | .dl kvs => kvs ≠ [] ∧ k (encK kvs)
  | _ => False
/-- what an operand looks like -/
def lkD (ρ : En) (a : Ar) (k : PyData → Prop) : Prop := match a with
  | .d d => k d
  | .o i => match ρ[i]? with
    | some (.v n) => lkN n k
    | some (.p n) => lkN n k
    | _ => False
inductive Lk (K : PySem.W.Frag) (F H : Hp) : V → PyData → Prop
  | d {v : V} {d : PyData} : Dq K F v d → Lk K F H v d
  | l {a : Addr} {vs : List V} {ds : List PyData} : H a = some (.lst vs) → DqAll K F vs ds → Lk K F H (.ref a) (.list ds)
  | dK {a : Addr} {ws : List (Key × V)} {kvs : List (Key × PyData)} {D : List (PyData × PyData)} : H a = some (.dK ws) → ws.map (·.1) = kvs.map (·.1) → DqAll K F (ws.map (·.2)) (kvs.map (·.2)) → D = entK kvs ∧ kvs ≠ [] → Lk K F H (.ref a) (.dict D)
  | dT {a : Addr} {ws : List (List Key × V)} {kvs : List (List Key × PyData)} {D : List (PyData × PyData)} : H a = some (.dT ws) → ws.map (·.1) = kvs.map (·.1) → DqAll K F (ws.map (·.2)) (kvs.map (·.2)) → D = entT kvs → Lk K F H (.ref a) (.dict D)
section
variable {K : PySem.W.Frag} {F F' H : Hp} {ρ : En} {σ : Sg} {fps : Nat → Addr → Prop} {v : V} {d : PyData}
theorem hasT_v {i : Nat} (r : RelS K F H ρ σ fps) (h : hasT ρ i) : ∃ v, σ[i]? = some (some v) := by
  unfold hasT at h
  split at h
  · rename_i n e
    obtain ⟨v, hv, _⟩ := r.rel i n (.inl e)
    exact ⟨v, hv⟩
  · rename_i n e
    obtain ⟨v, hv, _⟩ := r.rel i n (.inr e)
    exact ⟨v, hv⟩
  · exact h.elim
theorem lkN_rel {n : N} {fp : Addr → Prop} {k : PyData → Prop} (h : lkN n k) (r : RelN K F H n v fp) : ∃ d, k d ∧ Lk K F H v d := by
  cases n with
  | dat d => exact ⟨d, h, .d r.2⟩
  | lst ds => obtain ⟨a, vs, rfl, _, e, q⟩ := r; exact ⟨_, h, .l e q⟩
  | dK kvs => obtain ⟨a, ws, rfl, _, e, q, t⟩ := r; exact ⟨_, h.2, .dK e q t ⟨rfl, h.1⟩⟩
  | dT kvs => obtain ⟨a, ws, rfl, _, e, q, t⟩ := r; exact ⟨_, h, .dT e q t rfl⟩
  | dl kvs => obtain ⟨_, a, od, ws, rfl, e, q, t⟩ := r; exact ⟨_, h.2, .d (.dK (.inr ⟨od, e⟩) q t ⟨rfl, h.1⟩)⟩
  | scr _ => exact h.elim
  | res _ => exact h.elim
  | exc => exact h.elim
theorem lk_rel {a : Ar} {k : PyData → Prop} (r : RelS K F H ρ σ fps) (ra : RelA K F σ a v) (h : lkD ρ a k) : ∃ d, k d ∧ Lk K F H v d := by
  cases ra with
  | d q => exact ⟨_, h, .d q⟩
  | @o i v e =>
    unfold lkD at h
    cases er : ρ[i]? with
    | none => simp only [er] at h
    | some sl =>
      cases sl with
      | e => simp only [er] at h
      | v n =>
        simp only [er] at h
        obtain ⟨v', hv, rn⟩ := r.rel i n (.inl er)
        rw [e] at hv
        cases hv
        exact lkN_rel h rn
      | p n =>
        simp only [er] at h
        obtain ⟨v', hv, rn⟩ := r.rel i n (.inr er)
        rw [e] at hv
        cases hv
        exact lkN_rel h rn
theorem Lk.mono (s : Same F F') (h : Lk K F H v d) : Lk K F' H v d := by
  cases h with
  | d q => exact .d (q.mono s)
  | l e q => exact .l e (q.mono s)
  | dK e k q z => exact .dK e k (q.mono s) z
  | dT e k q z => exact .dT e k (q.mono s) z
/-- .. as if it were frozen -/
theorem Lk.fz (s : Same F H) (h : Lk K F H v d) : ∃ F', Same F F' ∧ Same F' H ∧ Dq K F' v d := by
  have put : ∀ {a : Addr} {o : HO}, H a = some o → Same F (upd F a o) ∧ Same (upd F a o) H := fun {a o} e => by
    refine ⟨fun b u eb => ?_, fun b u eb => ?_⟩
    · by_cases hb : b = a
      · subst hb; rw [upd_same, ← e]; exact s _ _ eb
      · rw [upd_ne hb]; exact eb
    · by_cases hb : b = a
      · subst hb; rw [upd_same] at eb; rw [e]; exact eb
      · rw [upd_ne hb] at eb; exact s _ _ eb
  cases h with
  | d q => exact ⟨F, .refl _, s, q⟩
  | l e q => exact ⟨_, (put e).1, (put e).2, .lst upd_same (q.mono (put e).1)⟩
  | dK e k q z => exact ⟨_, (put e).1, (put e).2, .dK (.inl upd_same) k (q.mono (put e).1) z⟩
  | dT e k q z => exact ⟨_, (put e).1, (put e).2, .dT (.inl upd_same) k (q.mono (put e).1) z⟩
theorem Lk.int {i : Int} (h : Lk K F H v (.int i)) : v = .int i := by
  cases h with
  | d q => cases q; rfl
theorem Lk.non (h : Lk K F H v .none) : v = .non := by
  cases h with
  | d q => cases q; rfl
end
section
variable {X : Cx} {E : EX} {e : Expr} {w : WE}
theorem x_d (h : PE X e (rd X.K X.mg E w)) : PE X e (rx X.K X.mg E (xD w)) := pe_imp h fun σ H Q ⟨ρ, F, fps, Z, Qd, st, hw, zc, k⟩ =>
  part st zc hw fun d v ρ1 F1 H1 fps1 g q hk => k _ _ _ _ _ _ g (.d q) hk
theorem x_o {i : Nat} {x : Str} {pos : Pos} (h : PE X (.Name x pos) (tVar i)) : PE X (.Name x pos) (rx X.K X.mg E (xO i)) := pe_imp h fun σ H Q ⟨ρ, F, fps, Z, Qd, st, hw, zc, k⟩ => by
  obtain ⟨v, hv⟩ := hasT_v st.rs hw.1
  exact ⟨v, hv, k _ _ _ _ _ _ (.refl st) (.o hv) hw.2⟩
end

/-! ### operations on data -/
abbrev O2 := PyData → PyData → (N → Prop) → Prop
abbrev O1 := PyData → (N → Prop) → Prop
def OpD (X : Cx) (f : Value → Value → Sem Value) (o : O2) : Prop := ∃ r, OpR X f r ∧ ∀ {F H d1 d2 v1 v2 k Q'}, Same F H → Lk X.K F H v1 d1 → Lk X.K F H v2 d2 → o d1 d2 k → (∀ n v F' H' fv, Grow X.K F H n v F' H' fv → k n → Q' v H') → r v1 v2 H Q'
def wO (o : O2) (wa wb : WX) : WE := fun Z ρ Q => wa Z ρ fun a ρ1 => wb Z ρ1 fun b ρ2 => lkD ρ2 a fun x => lkD ρ2 b fun y => o x y fun r => Q r ρ2
section
variable {X : Cx} {E : EX} {a b : Expr} {wa wb : WX} {pos : Pos}
theorem two {o : O2} {r : R2} (hr : ∀ {F H d1 d2 v1 v2 k Q'}, Same F H → Lk X.K F H v1 d1 → Lk X.K F H v2 d2 → o d1 d2 k → (∀ n v F' H' fv, Grow X.K F H n v F' H' fv → k n → Q' v H') → r v1 v2 H Q') :
    ∀ σ H Q, rd X.K X.mg E (wO o wa wb) σ H Q → tOp r (rx X.K X.mg E wa) (rx X.K X.mg E wb) σ H Q := fun σ H Q ⟨ρ, F, fps, Z, Qd, st, hw, zc, k⟩ => by
  refine ⟨ρ, F, fps, Z, _, st, hw, zc, fun a v1 ρ1 F1 H1 fps1 g1 q1 h1 => ?_⟩
  refine ⟨ρ1, F1, fps1, Z, _, g1.st, h1, zc.step g1, fun b v2 ρ2 F2 H2 fps2 g2 q2 h2 => ?_⟩
  obtain ⟨x, h3, l1⟩ := lk_rel g2.st.rs (q1.mono g2.tr.grow) h2
  obtain ⟨y, h4, l2⟩ := lk_rel g2.st.rs q2 h3
  exact hr g2.st.wf.sub l1 l2 h4 fun n v F' H' fv gr q => k _ _ _ _ _ _ _ (.after (g1.trans g2) (gr.got g2.st)) q
theorem d_bin {op : Operator} {o : O2} (ho : OpD X (binaryOp op) o) (ha : PE X a (rx X.K X.mg E wa)) (hb : PE X b (rx X.K X.mg E wb)) : PE X (.BinOp a op b pos) (rd X.K X.mg E (wO o wa wb)) :=
  let ⟨_, h1, h2⟩ := ho
  pe_imp (pe_op h1 ha hb) (two h2)
theorem d_cmp {op : CmpOp} {o : O2} (ho : OpD X (compareOp op) o) (ha : PE X a (rx X.K X.mg E wa)) (hb : PE X b (rx X.K X.mg E wb)) (h1 : behindInMarks op b = false := by first | exact nobehind _ (by decide) (by decide) | rfl) :
    PE X (.Compare a [op] [b] pos) (rd X.K X.mg E (wO o wa wb)) :=
  let ⟨_, q1, q2⟩ := ho
  pe_imp (pe_cmpR q1 ha hb h1) (two q2)
/-- a truth value, as a test -/
def bD (n : N) (k : Bool → Prop) : Prop := match n with
  | .dat (.bool b) => k b
  | _ => False
def wB (w : WE) : WT := fun Z ρ Q => w Z ρ fun n ρ1 => bD n fun b => Q b ρ1
theorem bD_of {n : N} {k : Bool → Prop} (h : bD n k) : ∃ b, n = .dat (.bool b) ∧ k b := by
  cases n with
  | dat d => cases d <;> first | exact ⟨_, rfl, h⟩ | exact h.elim
  | lst => exact h.elim
  | dK => exact h.elim
  | dT => exact h.elim
  | dl => exact h.elim
  | scr => exact h.elim
  | res => exact h.elim
  | exc => exact h.elim
theorem t_val {e : Expr} {w : WE} (h : PE X e (rd X.K X.mg E w)) (he : ∀ whole, isTrue e X.env whole = (do let v ← whole; standAt e.pos; holding [v] (truthy v)) := by intro _; rfl) : PT X e (rt X.K X.mg E (wB w)) :=
  pt_imp (pt_val h he) fun σ H Q ⟨ρ, F, fps, Z, Qd, st, hw, zc, k⟩ => ⟨ρ, F, fps, Z, _, st, hw, zc, fun n v ρ' F' H' fps' fv g q => by
    obtain ⟨b, rfl, q⟩ := bD_of q
    obtain ⟨rfl, dq⟩ := g.rn
    cases dq
    exact ⟨b, rfl, k _ _ _ _ _ g.s q⟩⟩
theorem t_cmp {op : CmpOp} {o : O2} (ho : OpD X (compareOp op) o) (ha : PE X a (rx X.K X.mg E wa)) (hb : PE X b (rx X.K X.mg E wb)) (h1 : behindInMarks op b = false := by first | exact nobehind _ (by decide) (by decide) | rfl) :
    PT X (.Compare a [op] [b] pos) (rt X.K X.mg E (wB (wO o wa wb))) :=
  let ⟨r, q1, q2⟩ := ho
  pt_imp (pt_cmpR q1 ha hb h1) fun σ H Q ⟨ρ, F, fps, Z, Qd, st, hw, zc, k⟩ => two (r := r) q2 σ H _ ⟨ρ, F, fps, Z, _, st, hw, zc, fun n v ρ' F' H' fps' fv g q => by
    obtain ⟨b, rfl, q⟩ := bD_of q
    obtain ⟨rfl, dq⟩ := g.rn
    cases dq
    exact ⟨b, rfl, k _ _ _ _ _ g.s q⟩⟩
end
end DL

namespace DL
open PySem PySem.Spec PyProof.Rows L2
theorem Grow.datB {K : PySem.W.Frag} {F H : Hp} {b : Bool} : Grow K F H (.dat (.bool b)) (.bl b) F H Nil := .dat (.bl b)
theorem Grow.datI {K : PySem.W.Frag} {F H : Hp} {i : Int} : Grow K F H (.dat (.int i)) (.int i) F H Nil := .dat (.int i)
theorem sz5 {n : Nat} (h : n ≤ 100000) : n ≤ sizeLine := Nat.le_trans h (by decide)
theorem tupH {K : PySem.W.Frag} {F H : Hp} {v : V} {ds : List PyData} (s : Same F H) (q : Lk K F H v (.tuple ds)) : ∃ a xs, v = .ref a ∧ SqT K F a xs ∧ SqT K H a xs ∧ DqAll K F xs ds := by
  cases q with
  | d q => cases q with
    | tup h t => exact ⟨_, _, rfl, h.sq, (h.mono s).sq, t⟩
theorem lstH {K : PySem.W.Frag} {F H : Hp} {v : V} {ds : List PyData} (s : Same F H) (q : Lk K F H v (.list ds)) : ∃ a xs, v = .ref a ∧ H a = some (.lst xs) ∧ DqAll K F xs ds := by
  cases q with
  | d q => cases q with
    | lst h t => exact ⟨_, _, rfl, s _ _ h, t⟩
  | l h t => exact ⟨_, _, rfl, h, t⟩
theorem Lk.tupD {K : PySem.W.Frag} {F H : Hp} {v : V} {ds : List PyData} (q : Lk K F H v (.tuple ds)) : Dq K F v (.tuple ds) := by
  cases q with
  | d q => exact q
def keyD : PyData → Bool
  | .int _ => true
  | .str _ => true
  | _ => false
/-! ### data as the library reads it -/
section
variable {X : Cx} {pins : List (Addr × Obj)} {σ : Sg} {H F : Hp} {s : Shared}
theorem key_reads {h : Heap} : ∀ {k : Key} {u : Value}, RelV (kV k) u → Reads h u (kP k) []
  | .inl i, u, r => by obtain ⟨t, rfl⟩ := r; exact .int i t
  | .inr x, u, r => by obtain ⟨t, rfl⟩ := r; exact .str x t
theorem keys_reads {h : Heap} : ∀ {ks : List Key} {us : List Value}, Vals (ks.map kV) us → ReadsAll h us (ks.map kP) []
  | [], us, r => by cases r; exact .nil
  | k :: ks, us, r => by
    cases r with
    | cons r1 r2 => exact .cons (as := []) (bs := []) (key_reads r1) (keys_reads r2)
theorem tup_reads (I : Inv X pins σ H s) {a : Addr} {xs : List V} {ds : List PyData} {bs : List Addr} (h : SqT X.K H a xs) (r : ∀ its, Vals xs its → ReadsAll s.heap its ds bs) : Reads s.heap (.ref a) (.tuple ds) bs := by
  obtain ⟨its, rv, ⟨o, ho, hc, n, hd⟩, _⟩ := I.tuple h
  exact .tuple ho hc hd (by simpa using r its rv)
theorem tkey_reads (I : Inv X pins σ H s) {a : Addr} {ks : List Key} (h : H a = some (.tup (ks.map kV))) : Reads s.heap (.ref a) (tP ks) [] := tup_reads I (.inl (.inl h)) fun _ r => keys_reads r
theorem tkeys_reads (I : Inv X pins σ H s) : ∀ {kvs : List (List Key × V)} {xs : List (List Key × Addr × Value)}, KT H kvs xs → ReadsAll s.heap (xs.map fun x => .ref x.2.1) (kvs.map fun p => tP p.1) [] ∧ Vals (kvs.map (·.2)) (xs.map fun x => x.2.2)
  | [], _, r => by cases r; exact ⟨.nil, .nil⟩
  | _ :: _, _, r => by
    cases r with
    | cons h t =>
      obtain ⟨h1, h2, h3⟩ := h
      have ih := tkeys_reads I t
      exact ⟨.cons (as := []) (bs := []) (tkey_reads I h2) ih.1, .cons h3 ih.2⟩
theorem kkeys_reads {h : Heap} {P : Program} {w : World} : ∀ {es : List DictEntry} {vs : List (Key × Value)} {kvs : List (Key × V)}, PySem.Pairs (mixKind P w) es vs → KV kvs vs → ReadsAll h (es.map (·.key)) (kvs.map fun p => kP p.1) [] ∧ Vals (kvs.map (·.2)) (es.map (·.val))
  | [], _, kvs, p, r => by cases p; cases r; exact ⟨.nil, .nil⟩
  | e :: es, _, kvs, p, r => by
    cases p with
    | @cons _ kv _ _ hk hv t =>
      cases r with
      | @cons x _ _ _ hx tx =>
        have ih := kkeys_reads (h := h) t tx
        obtain ⟨kk, vv⟩ := kv
        obtain ⟨k, v⟩ := x
        obtain ⟨h1, h2⟩ := hx
        dsimp only at h1 h2 hv hk
        subst h1
        refine ⟨.cons (as := []) (bs := []) ?_ ih.1, .cons (show L2.RelV v e.val by rw [hv]; exact h2) ih.2⟩
        rcases keyIs_shape hk with ⟨i, t, rfl, e1⟩ | ⟨y, t, rfl, e1⟩
        · show Reads h e.key _ []
          rw [e1]; exact .int i t
        · show Reads h e.key _ []
          rw [e1]; exact .str y t
/-- data without lists, dicts of flat values -/
def flatD : PyData → Bool
  | .list _ => false
  | .dict _ => false
  | .tuple xs => xs.all keyD
  | _ => true
mutual
def noL : PyData → Bool
  | .list _ => false
  | .tuple xs => noLs xs
  | .dict kvs => kvs.all fun p => flatD p.2
  | _ => true
def noLs : List PyData → Bool
  | [] => true
  | x :: xs => noL x && noLs xs
end
theorem noLs_keys : ∀ {xs : List PyData}, xs.all keyD = true → noLs xs = true
  | [], _ => rfl
  | x :: xs, h => by
    rw [List.all_cons, Bool.and_eq_true] at h
    unfold noLs
    rw [noLs_keys h.2, Bool.and_true]
    cases x <;> first | rfl | (have := h.1; cases this)
theorem noL_flat {x : PyData} (h : flatD x = true) : noL x = true := by
  cases x with
  | list => cases h
  | dict => cases h
  | tuple xs => exact noLs_keys h
  | _ => rfl
theorem noLs_flat : ∀ {xs : List PyData}, (∀ x ∈ xs, flatD x = true) → noLs xs = true
  | [], _ => rfl
  | x :: xs, h => by
    unfold noLs
    rw [noL_flat (h x List.mem_cons_self), noLs_flat fun y hy => h y (List.mem_cons_of_mem _ hy)]; rfl
mutual
theorem Dq.reads' (I : Inv X pins σ H s) (f : Same F H) : ∀ {v : V} {d : PyData}, Dq X.K F v d → ∀ (u : Value), RelV v u → ∃ as, Reads s.heap u d as ∧ (noL d = true → sysModules ∉ as)
  | _, _, .non, u, r => by cases r; exact ⟨_, .none, fun _ => List.not_mem_nil⟩
  | _, _, .bl b, u, r => by cases r; exact ⟨_, .bool b, fun _ => List.not_mem_nil⟩
  | _, _, .int i, u, r => by obtain ⟨t, rfl⟩ := r; exact ⟨_, .int i t, fun _ => List.not_mem_nil⟩
  | _, _, .str x, u, r => by obtain ⟨t, rfl⟩ := r; exact ⟨_, .str x t, fun _ => List.not_mem_nil⟩
  | _, _, .lst h t, u, r => by
    cases r
    obtain ⟨its, rv, ⟨o, n, ho, hc, _, hd⟩, _⟩ := I.list (SqL.of (f _ _ h))
    obtain ⟨as, hr, _⟩ := DqAll.reads' I f t its rv
    exact ⟨_, Reads.list ho hc hd hr, fun z => by cases z⟩
  | _, _, .tup h t, u, r => by
    cases r
    obtain ⟨its, rv, ⟨o, ho, hc, n, hd⟩, _⟩ := I.tuple (TupAt.mono f h).sq
    obtain ⟨as, hr, z⟩ := DqAll.reads' I f t its rv
    exact ⟨_, Reads.tuple ho hc hd hr, fun w => z w⟩
  | _, _, .dK (ws := ws) (kvs := kvs) h k t z, u, r => by
    cases r
    obtain ⟨z, _⟩ := z
    subst z
    obtain ⟨_, low, vs, rv, o, es, ep, e1, e2, e3, _, e4, _⟩ := okRd I (rd_mono f h)
    obtain ⟨q1, q2⟩ := kkeys_reads (h := s.heap) e4 rv
    obtain ⟨as, hr, na⟩ := DqAll.reads' I f t _ q2
    refine ⟨_, Reads.dict (as := []) (bs := as) e1 e2.1 e3 ?_ ?_, fun w m => ?_⟩
    · unfold entK
      rw [List.map_map]
      have e : (kvs.map ((·.1) ∘ fun p : Key × PyData => (kP p.1, p.2))) = ws.map fun p => kP p.1 := by
        have := congrArg (List.map kP) k
        rw [List.map_map, List.map_map] at this
        exact this.symm
      rw [e]; exact q1
    · unfold entK
      rw [List.map_map]
      exact hr
    · rw [List.singleton_append, List.mem_cons] at m
      rcases m with rfl | m
      · simp at low
      · refine na (noLs_flat fun x hx => ?_) m
        obtain ⟨p, hp, rfl⟩ := List.mem_map.mp hx
        exact List.all_eq_true.mp w (kP p.1, p.2) (List.mem_map.mpr ⟨p, hp, rfl⟩)
  | _, _, .dT (ws := ws) (kvs := kvs) h k t z, u, r => by
    cases r
    subst z
    obtain ⟨_, low, xs, rv, o, es, ep, e1, e2, e3, e4, _⟩ := okRd I (rd_mono f h)
    obtain ⟨q1, q2⟩ := tkeys_reads I rv
    obtain ⟨as, hr, na⟩ := DqAll.reads' I f t _ q2
    refine ⟨_, Reads.dict (as := []) (bs := as) e1 e2.1 e3 ?_ ?_, fun w m => ?_⟩
    · unfold entT
      rw [List.map_map, e4, List.map_map]
      have e : (kvs.map ((·.1) ∘ fun p : List Key × PyData => (tP p.1, p.2))) = ws.map fun p => tP p.1 := by
        have := congrArg (List.map tP) k
        rw [List.map_map, List.map_map] at this
        exact this.symm
      rw [e]; exact q1
    · unfold entT
      rw [List.map_map, e4, List.map_map]
      exact hr
    · rw [List.singleton_append, List.mem_cons] at m
      rcases m with rfl | m
      · simp at low
      · refine na (noLs_flat fun x hx => ?_) m
        obtain ⟨p, hp, rfl⟩ := List.mem_map.mp hx
        exact List.all_eq_true.mp w (tP p.1, p.2) (List.mem_map.mpr ⟨p, hp, rfl⟩)
theorem DqAll.reads' (I : Inv X pins σ H s) (f : Same F H) : ∀ {vs : List V} {ds : List PyData}, DqAll X.K F vs ds → ∀ (us : List Value), Vals vs us → ∃ as, ReadsAll s.heap us ds as ∧ (noLs ds = true → sysModules ∉ as)
  | _, _, .nil, us, r => by cases r; exact ⟨_, .nil, fun _ => List.not_mem_nil⟩
  | _, _, .cons h1 h2, us, r => by
    cases r with
    | cons r1 r2 =>
      obtain ⟨as, q1, n1⟩ := Dq.reads' I f h1 _ r1
      obtain ⟨bs, q2, n2⟩ := DqAll.reads' I f h2 _ r2
      refine ⟨_, .cons q1 q2, fun w m => ?_⟩
      unfold noLs at w
      rw [Bool.and_eq_true] at w
      rcases List.mem_append.mp m with m | m
      · exact n1 w.1 m
      · exact n2 w.2 m
end
theorem Dq.reads (I : Inv X pins σ H s) (f : Same F H) (d : PyData) (v : V) (u : Value) (h : Dq X.K F v d) (r : RelV v u) : ∃ as, Reads s.heap u d as := let ⟨as, q, _⟩ := Dq.reads' I f h u r; ⟨as, q⟩
theorem Dq.readsAll (I : Inv X pins σ H s) (f : Same F H) (ds : List PyData) (vs : List V) (us : List Value) (h : DqAll X.K F vs ds) (r : Vals vs us) : ∃ as, ReadsAll s.heap us ds as := let ⟨as, q, _⟩ := DqAll.reads' I f h us r; ⟨as, q⟩
end

/-! ### the operations -/
def bI (x y : PyData) (k : Int → Int → Prop) : Prop := match x, y with
  | .int i, .int j => k i j
  | _, _ => False
theorem bI_of {x y : PyData} {k : Int → Int → Prop} (h : bI x y k) : ∃ i j, x = .int i ∧ y = .int j ∧ k i j := by
  cases x <;> first | exact h.elim | (cases y <;> first | exact h.elim | exact ⟨_, _, rfl, rfl, h⟩)
def oI (C : Int → Int → Prop) (g : Int → Int → Int) : O2 := fun x y k => bI x y fun i j => C i j ∧ k (.dat (.int (g i j)))
def oI0 (g : Int → Int → Int) : O2 := fun x y k => bI x y fun i j => k (.dat (.int (g i j)))
def oB0 (g : Int → Int → Bool) : O2 := fun x y k => bI x y fun i j => k (.dat (.bool (g i j)))
section
variable {X : Cx}
theorem opd_I {f : Value → Value → Sem Value} {C : Int → Int → Prop} {g : Int → Int → Int} (h : OpR X f (rI C fun i j => .int (g i j))) : OpD X f (oI C g) := ⟨_, h, fun {F H d1 d2 v1 v2 k Q'} s q1 q2 ho go => by
  obtain ⟨i, j, rfl, rfl, c, q⟩ := bI_of ho
  obtain rfl := q1.int
  obtain rfl := q2.int
  exact ⟨i, j, rfl, rfl, c, go _ _ _ _ _ .datI q⟩⟩
theorem opd_I0 {f : Value → Value → Sem Value} {g : Int → Int → Int} (h : OpR X f (rI0 fun i j => .int (g i j))) : OpD X f (oI0 g) := ⟨_, h, fun {F H d1 d2 v1 v2 k Q'} s q1 q2 ho go => by
  obtain ⟨i, j, rfl, rfl, q⟩ := bI_of ho
  obtain rfl := q1.int
  obtain rfl := q2.int
  exact ⟨i, j, rfl, rfl, go _ _ _ _ _ .datI q⟩⟩
theorem opd_B0 {f : Value → Value → Sem Value} {g : Int → Int → Bool} (h : OpR X f (rI0 fun i j => .bl (g i j))) : OpD X f (oB0 g) := ⟨_, h, fun {F H d1 d2 v1 v2 k Q'} s q1 q2 ho go => by
  obtain ⟨i, j, rfl, rfl, q⟩ := bI_of ho
  obtain rfl := q1.int
  obtain rfl := q2.int
  exact ⟨i, j, rfl, rfl, go _ _ _ _ _ .datB q⟩⟩
theorem OpR_or {f : Value → Value → Sem Value} {r r' : R2} (h : OpR X f r) (h' : OpR X f r') : OpR X f (fun x y H Q => r x y H Q ∨ r' x y H Q) := fun pins s σ H x y v u Q I rx ry hq =>
  hq.elim (fun q => h pins s σ H x y v u Q I rx ry q) fun q => h' pins s σ H x y v u Q I rx ry q
/-- either of two -/
theorem OpD.or {f : Value → Value → Sem Value} {o o' : O2} (h : OpD X f o) (h' : OpD X f o') : OpD X f (fun x y k => o x y k ∨ o' x y k) :=
  let ⟨_, a1, a2⟩ := h
  let ⟨_, b1, b2⟩ := h'
  ⟨_, OpR_or a1 b1, fun s q1 q2 ho go => ho.elim (fun q => .inl (a2 s q1 q2 q go)) fun q => .inr (b2 s q1 q2 q go)⟩
/-! ### new tuples -/
theorem tup_new {Q : VK} {zs : List V} {its : List Value} (I : Inv X pins σ H s) (r : Vals zs its) (hz : zs.length ≤ sizeLine) (q : ∀ (p : Addr) (o : Obj), o.dict = none → H p = none → Q (.ref p) (upd H p (tupO o zs))) : EP X pins σ Q (.ref s.heap.objs.size) { s with heap := s.heap.push { cls := .type "tuple", data := .seq its.toArray } } := by
  refine ⟨.ref s.heap.objs.size, _, I.laid (t' := s.toks) (o := tupO { cls := .type "tuple", data := .seq its.toArray } zs) (fun _ _ q => Heap.get?_push_of_some _ q) (Nat.le_refl _) ?_, rfl, q s.heap.objs.size { cls := .type "tuple", data := .seq its.toArray } rfl (I.hok.fresh (Nat.le_refl _))⟩
  unfold tupO
  split
  · exact ⟨hz, its, r, IsTup.new _ _⟩
  · exact ⟨Heap.get?_push_size _ rfl, hz, its, r, IsTup.new _ _⟩
def newT (zs : List V) (H : Hp) (Q : VK) : Prop := ∀ (p : Addr) (o : Obj), o.dict = none → H p = none → Q (.ref p) (upd H p (tupO o zs))
theorem pe_tupB {es : List Expr} {t : TA} {pos : Pos} {x1} (h : PA X es t) : PE X (.Tuple es x1 pos) (fun σ H Q => t σ H fun xs H1 => xs.length ≤ sizeLine ∧ newT xs H1 Q) := by
  refine ⟨fun pins s σ H Q I hq => ?_⟩
  refine wpAny_Tuple_spliced (thn (h.run pos pins s σ H _ I hq) fun us s1 ⟨xs, H1, I1, r, z, q⟩ => ⟨by rw [← r.length]; exact z, ?_⟩)
  exact tup_new I1 r z q
theorem call_tuple_ofB : CallR X (.type "tuple") (fun xs H Q => ∃ p ys, xs = [.ref p] ∧ ((SqL X.K H p ys ∧ newT ys H Q) ∨ (SqT X.K H p ys ∧ Q (.ref p) H))) := by
  intro pins s σ H xs us Q I r h
  obtain ⟨p, ys, rfl, h⟩ := h
  obtain ⟨u, rfl, rx⟩ := vals1 r
  cases rx
  rcases h with ⟨hq, q⟩ | ⟨hq, q⟩
  · obtain ⟨its, r', pl, hz⟩ := I.list hq
    have hlen := r'.length
    refine call_tuple_list pl.isList (fun h' kp => ?_) (by simp only [List.size_toArray] <;> omega)
    have I1 : Inv X pins σ H { s with heap := h' } := I.kept (t' := s.toks) kp
    exact tup_new I1 r' hz q
  · obtain ⟨its, r', pl, hz⟩ := I.tuple hq
    exact call_tuple_same pl ⟨.ref p, H, I, rfl, q⟩
def rCatB (K : PySem.W.Frag) : R2 := fun x y H Q => ∃ a b xs ys, x = .ref a ∧ y = .ref b ∧ SqT K H a xs ∧ SqT K H b ys ∧ xs.length + ys.length ≤ sizeLine ∧
  (xs = [] → Q (.ref b) H) ∧ (xs ≠ [] → ys = [] → Q (.ref a) H) ∧ (xs ≠ [] → ys ≠ [] → newT (xs ++ ys) H Q)
theorem op_catB : OpR X (binaryOp .Add) (rCatB X.K) := by
  intro pins s σ H x y v u Q I rx ry h
  obtain ⟨a, b, xs, ys, rfl, rfl, ha, hb, hz, q0, q1, q2⟩ := h
  cases rx
  cases ry
  obtain ⟨its, r1, p1, _⟩ := I.tuple ha
  obtain ⟨its2, r2, p2, _⟩ := I.tuple hb
  by_cases hx : xs = []
  · subst hx
    cases r1
    exact cat_tup0 p1 p2 ⟨.ref b, H, I, rfl, q0 rfl⟩
  · refine HT.cat_tup p1 p2 (fun z => hx (r1.nil_iff.mp z)) (fun z => ⟨.ref a, H, I, rfl, q1 hx (r2.nil_iff.mp z)⟩) (fun z => ?_) (by rw [← r1.length, ← r2.length]; exact hz)
    have q := q2 hx fun w => z (r2.nil_iff.mpr w)
    exact tup_new I (r1.append r2) (by rw [List.length_append]; exact hz) q
def rSlB (K : PySem.W.Frag) : V → Option Int → Option Int → Hp → VK → Prop := fun x lo hi H Q => ∃ a xs, x = .ref a ∧ SqT K H a xs ∧
  (HT.sIx xs.length 0 lo = 0 ∧ HT.sIx xs.length xs.length hi = xs.length → Q (.ref a) H) ∧ (¬ (HT.sIx xs.length 0 lo = 0 ∧ HT.sIx xs.length xs.length hi = xs.length) → newT (cutV xs lo hi) H Q)
theorem sl_tupB : SlR X (rSlB X.K) := by
  intro pins s σ H x v vl vu lo hi sl Q I rx hs pl pu h
  obtain ⟨a, xs, rfl, hx, q1, q2⟩ := h
  cases rx
  obtain ⟨its, r, ht, hz⟩ := I.tuple hx
  have hlen : its.toArray.size = xs.length := by rw [List.size_toArray]; exact r.length.symm
  refine ⟨"tuple", _, PyProof.Rows.slot_tuple_getitem.lookup, ht.typeIs, ?_⟩
  by_cases hw : HT.sIx xs.length 0 lo = 0 ∧ HT.sIx xs.length xs.length hi = xs.length
  · exact getItem_tuple_whole ht hs pl pu (by rw [hlen]; exact hw) ⟨.ref a, H, I, rfl, q1 hw⟩
  · refine HT.getItem_tuple_cut ht hs pl pu (by rw [hlen]; exact hw) ?_ (by rw [hlen]; exact hz)
    rw [hlen]
    have q := q2 hw
    exact tup_new I ((r.drop (HT.sIx xs.length 0 lo)).take (HT.sIx xs.length xs.length hi - HT.sIx xs.length 0 lo)) (Nat.le_trans (cutV_length xs lo hi) hz) q
/-! ### tuples, lists -/
def oCat : O2 := fun x y k => match x, y with
  | .int i, .int j => k (.dat (.int (i + j)))
  | .tuple xs, .tuple ys => xs.length + ys.length ≤ 100000 ∧ k (.dat (.tuple (xs ++ ys)))
  | .list xs, .list ys => xs.length + ys.length ≤ 100000 ∧ k (.lst (xs ++ ys))
  | _, _ => False
theorem opd_add : OpD X (binaryOp .Add) oCat := by
  refine ⟨_, OpR_or op_add (OpR_or op_catB op_cat), fun {F H d1 d2 v1 v2 k Q'} s q1 q2 ho go => ?_⟩
  unfold oCat at ho
  split at ho
  · obtain rfl := q1.int
    obtain rfl := q2.int
    exact .inl ⟨_, _, rfl, rfl, go _ _ _ _ _ .datI ho⟩
  · obtain ⟨a, vs, rfl, f1, h1, t1⟩ := tupH s q1
    obtain ⟨b, ws, rfl, f2, h2, t2⟩ := tupH s q2
    obtain ⟨hl, ho⟩ := ho
    refine .inr (.inl ⟨a, b, vs, ws, rfl, rfl, h1, h2, by rw [t1.length, t2.length]; exact sz5 hl, fun e => ?_, fun _ e => ?_, fun _ _ p o ho2 hp => ?_⟩)
    · subst e
      cases t1
      exact go _ _ _ _ _ (.dat q2.tupD) ho
    · subst e
      cases t2
      rw [List.append_nil] at ho
      exact go _ _ _ _ _ (.dat q1.tupD) ho
    · exact go _ _ _ _ _ (.tup hp ho2 (t1.append t2)) ho
  · obtain ⟨a, vs, rfl, h1, t1⟩ := lstH s q1
    obtain ⟨b, ws, rfl, h2, t2⟩ := lstH s q2
    obtain ⟨hl, ho⟩ := ho
    exact .inr (.inr ⟨a, b, vs, ws, rfl, rfl, h1, h2, by rw [t1.length, t2.length]; exact sz5 hl, fun p hp => go _ _ _ _ _ (.lst hp (t1.append t2)) ho⟩)
  · exact ho.elim
theorem opd_sub : OpD X (binaryOp .Sub) (oI0 (· - ·)) := opd_I0 op_sub
def CDivI (i j : Int) : Prop := CDiv i j
theorem opd_div : OpD X (binaryOp .FloorDiv) (oI CDiv (· / ·)) := opd_I op_fdiv
theorem opd_mod : OpD X (binaryOp .Mod) (oI (fun _ j => 0 < j) (· % ·)) := opd_I op_mod
theorem opd_pow : OpD X (binaryOp .Pow) (oI CPow fun i j => i ^ j.toNat) := opd_I op_pow
theorem opd_shl : OpD X (binaryOp .LShift) (oI CPow fun i j => i * 2 ^ j.toNat) := opd_I op_shl
theorem opd_shr : OpD X (binaryOp .RShift) (oI (fun _ j => 0 ≤ j) fun i j => i / 2 ^ j.toNat) := opd_I op_shr
theorem opd_and : OpD X (binaryOp .BitAnd) (oI0 Builtin.bitAnd) := opd_I0 op_and
theorem opd_or : OpD X (binaryOp .BitOr) (oI0 Builtin.bitOr) := opd_I0 op_or
theorem dqs_rep {K : PySem.W.Frag} {F : Hp} {vs : List V} {ds : List PyData} (h : DqAll K F vs ds) : ∀ k : Nat, DqAll K F (List.replicate k vs).flatten (List.replicate k ds).flatten
  | 0 => .nil
  | k + 1 => by
    rw [List.replicate_succ, List.replicate_succ, List.flatten_cons, List.flatten_cons]
    exact h.append (dqs_rep h k)
theorem keys_v {K : PySem.W.Frag} {F : Hp} : ∀ {vs : List V} {ds : List PyData}, DqAll K F vs ds → ds.all keyD = true → tupK vs = true
  | _, _, .nil, _ => rfl
  | _, _, .cons h t, e => by
    rw [List.all_cons, Bool.and_eq_true] at e
    have z := keys_v t e.2
    unfold tupK at z ⊢
    rw [List.all_cons, z, Bool.and_true]
    cases h <;> first | rfl | (have e1 := e.1; cases e1)
theorem all_rep {α : Type} {f : α → Bool} {xs : List α} (h : xs.all f = true) : ∀ k : Nat, (List.replicate k xs).flatten.all f = true
  | 0 => rfl
  | k + 1 => by rw [List.replicate_succ, List.flatten_cons, List.all_append, h, all_rep h k]; rfl
theorem tuple_mul1 (l : Addr) (items : Array Value) (n : Nat) (dd : Option Addr) (sl : Array (Option Value)) (u : Tok) :
    Meets (Builtin.«tuple.__mul__» ⟨[.ref l, .int 1 u], []⟩) (fun _ R s => s.heap.get? l = some { cls := .type "tuple", dict := dd, data := .seq items n, slots := sl } ∧ R (.ok (.ret (Value.ref l))) s) :=
  .of_wp fun prog w A R s h => by
    obtain ⟨hp, g, d, tk, os⟩ := s
    obtain ⟨hl, h⟩ := h
    have f1 := AutoSeq1.idx_int
    have c1 : (items.isEmpty || ((1 : Int) == 1)) = true := by rw [show ((1 : Int) == 1) = true from rfl, Bool.or_true]
    wp_walk using wpAny_loadPart' hl
    repeat (first
      | (refine wpAny_ite_true (decide_eq_true (by rw [c1])) ?_; wp_walk using wpAny_loadPart' hl))
    exact ⟨_, rfl, h⟩
theorem tuple_mul0 (l : Addr) (items : Array Value) (n : Nat) (dd : Option Addr) (sl : Array (Option Value)) (x : Int) (u : Tok) (c0 : (decide (x < -(2 ^ 63)) || decide (x ≥ 2 ^ 63)) = false) (c1 : (items.isEmpty || x == 1) = false) (c2 : (decide (x ≤ 0) || items.isEmpty) = true) :
    Meets (Builtin.«tuple.__mul__» ⟨[.ref l, .int x u], []⟩) (fun _ R s => s.heap.get? l = some { cls := .type "tuple", dict := dd, data := .seq items n, slots := sl } ∧
      R (.ok (.ret (Value.ref s.heap.objs.size))) { s with heap := s.heap.push { cls := Value.type "tuple", data := Data.seq #[] }, toks := s.toks }) :=
  .of_wp fun prog w A R s h => by
    obtain ⟨hp, g, d, tk, os⟩ := s
    obtain ⟨hl, h⟩ := h
    have f1 := AutoSeq1.idx_int
    wp_walk using wpAny_loadPart' hl
    repeat (first
      | (refine wpAny_ite_false (decide_eq_false (by rw [c0]; exact Bool.false_ne_true)) ?_; wp_walk using wpAny_loadPart' hl)
      | (refine wpAny_ite_false (decide_eq_false (by rw [c1]; exact Bool.false_ne_true)) ?_; wp_walk using wpAny_loadPart' hl)
      | (refine wpAny_ite_true (decide_eq_true (by rw [c2])) ?_; wp_walk using wpAny_loadPart' hl))
    exact ⟨_, rfl, h⟩
def rRepT1 (K : PySem.W.Frag) : R2 := fun x y H Q => ∃ l xs, x = .ref l ∧ y = .int 1 ∧ SqT K H l xs ∧ Q (.ref l) H
theorem op_repT1 : OpR X (binaryOp .Mult) (rRepT1 X.K) := by
  intro pins s σ H x y v u Q I rx ry h
  obtain ⟨l, xs, rfl, rfl, hT, q⟩ := h
  cases rx
  obtain ⟨t, rfl⟩ := ry
  obtain ⟨its, r, ⟨⟨cls, dd, data, sl⟩, ho, hc, n, hd⟩, hs⟩ := I.tuple hT
  simp only at hc hd
  subst hc hd
  refine wpAny_binaryOp_repeat_ref (T := "tuple") (U := "int") (by decide) ⟨_, ho, rfl⟩ (fun s' => typeIs_int s' 1 t) noFill_tuple_mul F.fills_int_mul F.slot_int_rmul repeat_tuple F.slot_int_index.lookup
    (call_meets F.slot_int_rmul (typeIs_int s 1 t) F.entry_int_rmul (F.args_int_rmul_2 _ _) (int_rmul_tuple 1 t l its.toArray n dd sl)
      ⟨ho, rfl, ⟨_, ho, rfl⟩, call_meets F.slot_tuple_mul ⟨_, ho, rfl⟩ F.entry_tuple_mul (F.args_tuple_mul_2 _ _) (tuple_mul1 l its.toArray n dd sl t) ⟨ho, ?_⟩⟩)
  exact ⟨.ref l, _, I, rfl, q⟩
def rRepT0 (K : PySem.W.Frag) : R2 := fun x y H Q => ∃ l k xs, x = .ref l ∧ y = .int k ∧ SqT K H l xs ∧ xs ≠ [] ∧ -1000 ≤ k ∧ k ≤ 0 ∧ ∀ p, H p = none → Q (.ref p) (upd H p (.tup []))
theorem op_repT0 : OpR X (binaryOp .Mult) (rRepT0 X.K) := by
  intro pins s σ H x y v u Q I rx ry h
  obtain ⟨l, k, xs, rfl, rfl, hT, hne, h1, h2, q⟩ := h
  cases rx
  obtain ⟨t, rfl⟩ := ry
  obtain ⟨its, r, ⟨⟨cls, dd, data, sl⟩, ho, hc, n, hd⟩, hs⟩ := I.tuple hT
  simp only at hc hd
  subst hc hd
  have hle : its.length = xs.length := r.length.symm
  have hn : its ≠ [] := fun e => hne (by
    rw [e] at hle
    exact List.eq_nil_of_length_eq_zero hle.symm)
  have hi : its.toArray.isEmpty = false := by
    cases its with
    | nil => exact absurd rfl hn
    | cons a b => rfl
  have c0 : (decide (k < -(2 ^ 63)) || decide (k ≥ 2 ^ 63)) = false := by
    rw [decide_eq_false (by omega), decide_eq_false (by omega)] <;> rfl
  have c1 : (its.toArray.isEmpty || k == 1) = false := by
    rw [hi, Bool.false_or]
    exact beq_eq_false_iff_ne.mpr (by omega)
  have c2 : (decide (k ≤ 0) || its.toArray.isEmpty) = true := by
    rw [decide_eq_true h2]; rfl
  refine wpAny_binaryOp_repeat_ref (T := "tuple") (U := "int") (by decide) ⟨_, ho, rfl⟩ (fun s' => typeIs_int s' k t) noFill_tuple_mul F.fills_int_mul F.slot_int_rmul repeat_tuple F.slot_int_index.lookup
    (call_meets F.slot_int_rmul (typeIs_int s k t) F.entry_int_rmul (F.args_int_rmul_2 _ _) (int_rmul_tuple k t l its.toArray n dd sl)
      ⟨ho, rfl, ⟨_, ho, rfl⟩, call_meets F.slot_tuple_mul ⟨_, ho, rfl⟩ F.entry_tuple_mul (F.args_tuple_mul_2 _ _) (tuple_mul0 l its.toArray n dd sl k t c0 c1 c2) ⟨ho, ?_⟩⟩)
  refine ⟨.ref s.heap.objs.size, _, I.laid (t' := s.toks) (o := .tup []) (fun b ob q => Heap.get?_push_of_some _ q) (Nat.le_refl _) ?_, rfl, q _ (I.hok.fresh (Nat.le_refl _))⟩
  exact ⟨by rw [sizeLine_eq]; decide, _, .nil, IsTup.new _ _⟩
def oMul : O2 := fun x y k => match x, y with
  | .int i, .int j => CMul i j ∧ k (.dat (.int (i * j)))
  | .tuple xs, .int j => (xs ≠ [] ∧ -1000 ≤ j ∧ j ≤ 1000 ∧ xs.length ≤ 1000 ∧ xs.all keyD = true) ∧ k (.dat (.tuple (List.replicate j.toNat xs).flatten))
  | .list xs, .int j => (-1000 ≤ j ∧ j ≤ 1000 ∧ xs.length ≤ 100) ∧ k (.lst (List.replicate j.toNat xs).flatten)
  | _, _ => False
theorem opd_mul : OpD X (binaryOp .Mult) oMul := by
  refine ⟨_, OpR_or op_mul (OpR_or op_repT (OpR_or op_repT1 (OpR_or op_repT0 op_rep))), fun {F H d1 d2 v1 v2 k Q'} s q1 q2 ho go => ?_⟩
  unfold oMul at ho
  split at ho
  · obtain rfl := q1.int
    obtain rfl := q2.int
    exact .inl ⟨_, _, rfl, rfl, ho.1, go _ _ _ _ _ .datI ho.2⟩
  · have q1' := q1
    rename_i xs j
    obtain ⟨a, vs, rfl, f1, h1, t1⟩ := tupH s q1
    obtain rfl := q2.int
    obtain ⟨⟨hn, h2, h3, h4, h5⟩, ho⟩ := ho
    have hv : vs ≠ [] := fun e => hn (by subst e; cases t1; rfl)
    rcases (show j ≤ 0 ∨ j = 1 ∨ 2 ≤ j by omega) with hj | rfl | hj
    · refine .inr (.inr (.inr (.inl ⟨a, _, vs, rfl, rfl, h1, hv, h2, hj, fun p hp => ?_⟩)))
      rw [show j.toNat = 0 by omega] at ho
      exact go _ _ _ _ _ (.tupK hp rfl .nil) ho
    · refine .inr (.inr (.inl ⟨a, vs, rfl, rfl, h1, ?_⟩))
      rw [show ((1 : Int).toNat) = 1 from rfl, List.replicate_succ, List.replicate_zero, List.flatten_cons, List.flatten_nil, List.append_nil] at ho
      exact go _ _ _ _ _ (.dat q1'.tupD) ho
    · exact .inr (.inl ⟨a, _, vs, rfl, rfl, h1, hv, hj, h3, by rw [t1.length]; exact h4, fun p hp => go _ _ _ _ _ (.tupK hp (keys_v (dqs_rep t1 _) (all_rep h5 _)) (dqs_rep t1 _)) ho⟩)
  · obtain ⟨a, vs, rfl, h1, t1⟩ := lstH s q1
    obtain rfl := q2.int
    obtain ⟨⟨h2, h3, h4⟩, ho⟩ := ho
    refine .inr (.inr (.inr (.inr ⟨a, _, vs, rfl, rfl, h1, by omega, by omega, ?_, fun p hp => go _ _ _ _ _ (.lst hp (dqs_rep t1 _)) ho⟩)))
    rw [t1.length]
    refine sz5 ?_
    have h5 : ∀ j : Int, j ≤ 1000 → j.toNat ≤ 1000 := fun j h => by omega
    exact Nat.mul_le_mul h4 (h5 _ h3)
  · exact ho.elim
/-! ### comparisons -/
theorem opd_lt : OpD X (compareOp .Lt) (oB0 fun i j => decide (i < j)) := opd_B0 op_lt
theorem opd_le : OpD X (compareOp .LtE) (oB0 fun i j => decide (i ≤ j)) := opd_B0 op_le
theorem opd_gt : OpD X (compareOp .Gt) (oB0 fun i j => decide (j < i)) := opd_B0 op_gt
theorem opd_ge : OpD X (compareOp .GtE) (oB0 fun i j => decide (j ≤ i)) := opd_B0 op_ge
/-- a reading that keeps its frozen part -/
def rFz (r : Hp → R2) : R2 := fun x y H Q => ∃ F, Same F H ∧ r F x y H Q
theorem fz2 {K : PySem.W.Frag} {F H : Hp} {v1 v2 : V} {d1 d2 : PyData} (s : Same F H) (q1 : Lk K F H v1 d1) (q2 : Lk K F H v2 d2) : ∃ F2, Same F F2 ∧ Same F2 H ∧ Dq K F2 v1 d1 ∧ Dq K F2 v2 d2 := by
  obtain ⟨F1, a1, a2, a3⟩ := q1.fz s
  obtain ⟨F2, b1, b2, b3⟩ := (q2.mono a1).fz a2
  exact ⟨F2, a1.trans b1, b2, a3.mono b1, b3⟩
def oEq (g : Bool → Bool) : O2 := fun x y k => match x, y with
  | .str a, .str b => k (.dat (.bool (g (a == b))))
  | .int a, .int b => k (.dat (.bool (g (a == b))))
  | x, y => (SeqAt.shaped x = true ∧ SeqAt.shaped y = true) ∧ k (.dat (.bool (g (PyData.eqv x y))))
theorem Lk.st {K : PySem.W.Frag} {F H : Hp} {v : V} {x : Str} (h : Lk K F H v (.str x)) : v = .str x := by
  cases h with
  | d q => cases q; rfl
theorem opd_eq (hu : X.A.units + 64 < cLine) : OpD X (compareOp .Eq) (oEq id) :=
  ⟨_, OpR_or op_eq (r' := fun x y H Q => ∃ F d e, Same F H ∧ Dq X.K F x d ∧ Dq X.K F y e ∧ SeqAt.shaped d = true ∧ SeqAt.shaped e = true ∧ Q (.bl (PyData.eqv d e)) H) fun pins s σ H x y v u Q I rx ry ⟨F, d, e, sf, hd, he, sd, se, q⟩ => by
    obtain ⟨as, r1⟩ := Dq.reads I sf d x v hd rx
    obtain ⟨bs, r2⟩ := Dq.reads I sf e y u he ry
    exact SeqAt.compareEq_shaped r1 r2 sd se hu ⟨.bl _, H, I, rfl, q⟩, fun {F H d1 d2 v1 v2 k Q'} s q1 q2 ho go => by
    unfold oEq at ho
    split at ho
    · obtain rfl := q1.st
      obtain rfl := q2.st
      exact .inl ⟨rfl, by rw [dec_str]; exact go _ _ _ _ _ .datB ho⟩
    · obtain rfl := q1.int
      obtain rfl := q2.int
      exact .inl ⟨rfl, by rw [dec_int]; exact go _ _ _ _ _ .datB ho⟩
    · obtain ⟨F'', _, s', p1, p2⟩ := fz2 s q1 q2
      exact .inr ⟨_, _, _, s', p1, p2, ho.1.1, ho.1.2, go _ _ _ _ _ .datB ho.2⟩⟩
theorem opd_ne (hu : X.A.units + 64 < cLine) : OpD X (compareOp .NotEq) (oEq not) :=
  ⟨_, OpR_or op_ne (r' := fun x y H Q => ∃ F d e, Same F H ∧ Dq X.K F x d ∧ Dq X.K F y e ∧ SeqAt.shaped d = true ∧ SeqAt.shaped e = true ∧ Q (.bl (!PyData.eqv d e)) H) fun pins s σ H x y v u Q I rx ry ⟨F, d, e, sf, hd, he, sd, se, q⟩ => by
    obtain ⟨as, r1⟩ := Dq.reads I sf d x v hd rx
    obtain ⟨bs, r2⟩ := Dq.reads I sf e y u he ry
    exact SeqAt.compareNe_shaped r1 r2 sd se hu ⟨.bl _, H, I, rfl, q⟩, fun {F H d1 d2 v1 v2 k Q'} s q1 q2 ho go => by
    unfold oEq at ho
    split at ho
    · obtain rfl := q1.st
      obtain rfl := q2.st
      exact .inl ⟨rfl, by rw [dec_str]; exact go _ _ _ _ _ .datB ho⟩
    · obtain rfl := q1.int
      obtain rfl := q2.int
      exact .inl ⟨rfl, by rw [dec_int]; exact go _ _ _ _ _ .datB ho⟩
    · obtain ⟨F'', _, s', p1, p2⟩ := fz2 s q1 q2
      exact .inr ⟨_, _, _, s', p1, p2, ho.1.1, ho.1.2, go _ _ _ _ _ .datB ho.2⟩⟩
def oIn (g : Bool → Bool) : O2 := fun x c k => match c with
  | .list ys => (SeqAt.shaped x = true ∧ SeqAt.shaped c = true) ∧ k (.dat (.bool (g (ys.any fun z => PyData.eqv z x))))
  | .tuple ys => (SeqAt.shaped x = true ∧ SeqAt.shaped c = true) ∧ k (.dat (.bool (g (ys.any fun z => PyData.eqv z x))))
  | _ => False
theorem opd_in (hu : X.A.units + 65 < cLine) : OpD X (compareOp .In) (oIn id) :=
  ⟨fun x y H Q => ∃ F d ys, Same F H ∧ Dq X.K F x d ∧ SeqAt.shaped d = true ∧ ((Dq X.K F y (.list ys) ∧ SeqAt.shaped (.list ys) = true) ∨ (Dq X.K F y (.tuple ys) ∧ SeqAt.shaped (.tuple ys) = true)) ∧ Q (.bl (ys.any fun z => PyData.eqv z d)) H,
    fun pins s σ H x y v u Q I rx ry ⟨F, d, ys, sf, hd, sd, hc, q⟩ => by
      obtain ⟨as, r1⟩ := Dq.reads I sf d x v hd rx
      rcases hc with ⟨he, se⟩ | ⟨he, se⟩
      · obtain ⟨bs, r2⟩ := Dq.reads I sf _ y u he ry
        exact SeqAt.in_list_reads r2 r1 (SeqAt.canLay_of_shaped se) (SeqAt.canLay_of_shaped sd) (room_in_shaped sd hu) ⟨.bl _, H, I, rfl, q⟩
      · obtain ⟨bs, r2⟩ := Dq.reads I sf _ y u he ry
        exact SeqAt.in_tuple_reads r2 r1 (SeqAt.canLay_of_shaped se) (SeqAt.canLay_of_shaped sd) (room_in_shaped sd hu) ⟨.bl _, H, I, rfl, q⟩,
    fun {F H d1 d2 v1 v2 k Q'} s q1 q2 ho go => by
      obtain ⟨F'', _, s', p1, p2⟩ := fz2 s q1 q2
      unfold oIn at ho
      split at ho
      · exact ⟨F'', _, _, s', p1, ho.1.1, .inl ⟨p2, ho.1.2⟩, go _ _ _ _ _ .datB ho.2⟩
      · exact ⟨F'', _, _, s', p1, ho.1.1, .inr ⟨p2, ho.1.2⟩, go _ _ _ _ _ .datB ho.2⟩
      · exact ho.elim⟩
theorem opd_notin (hu : X.A.units + 65 < cLine) : OpD X (compareOp .NotIn) (oIn not) :=
  ⟨fun x y H Q => ∃ F d ys, Same F H ∧ Dq X.K F x d ∧ SeqAt.shaped d = true ∧ ((Dq X.K F y (.list ys) ∧ SeqAt.shaped (.list ys) = true) ∨ (Dq X.K F y (.tuple ys) ∧ SeqAt.shaped (.tuple ys) = true)) ∧ Q (.bl (!ys.any fun z => PyData.eqv z d)) H,
    fun pins s σ H x y v u Q I rx ry ⟨F, d, ys, sf, hd, sd, hc, q⟩ => by
      obtain ⟨as, r1⟩ := Dq.reads I sf d x v hd rx
      rcases hc with ⟨he, se⟩ | ⟨he, se⟩
      · obtain ⟨bs, r2⟩ := Dq.reads I sf _ y u he ry
        exact SeqAt.notIn_list_reads r2 r1 (SeqAt.canLay_of_shaped se) (SeqAt.canLay_of_shaped sd) (room_in_shaped sd hu) ⟨.bl _, H, I, rfl, q⟩
      · obtain ⟨bs, r2⟩ := Dq.reads I sf _ y u he ry
        exact SeqAt.notIn_tuple_reads r2 r1 (SeqAt.canLay_of_shaped se) (SeqAt.canLay_of_shaped sd) (room_in_shaped sd hu) ⟨.bl _, H, I, rfl, q⟩,
    fun {F H d1 d2 v1 v2 k Q'} s q1 q2 ho go => by
      obtain ⟨F'', _, s', p1, p2⟩ := fz2 s q1 q2
      unfold oIn at ho
      split at ho
      · exact ⟨F'', _, _, s', p1, ho.1.1, .inl ⟨p2, ho.1.2⟩, go _ _ _ _ _ .datB ho.2⟩
      · exact ⟨F'', _, _, s', p1, ho.1.1, .inr ⟨p2, ho.1.2⟩, go _ _ _ _ _ .datB ho.2⟩
      · exact ho.elim⟩
def isN : PyData → Bool
  | .none => true
  | _ => false
def oIs (g : Bool → Bool) : O2 := fun x y k => y = .none ∧ k (.dat (.bool (g (isN x))))
theorem isN_v {K : PySem.W.Frag} {F : Hp} {v : V} {d : PyData} (h : Dq K F v d) : decide (v = .non) = isN d := by
  cases h <;> rfl
theorem opd_is : OpD X (compareOp .Is) (oIs id) := ⟨_, op_isN, fun {F H d1 d2 v1 v2 k Q'} s q1 q2 ho go => by
  obtain ⟨rfl, ho⟩ := ho
  obtain rfl := q2.non
  refine ⟨rfl, ?_⟩
  obtain ⟨F', _, _, p1⟩ := q1.fz s
  rw [isN_v p1]
  exact go _ _ _ _ _ .datB ho⟩
theorem opd_isnot : OpD X (compareOp .IsNot) (oIs not) := ⟨_, op_notN, fun {F H d1 d2 v1 v2 k Q'} s q1 q2 ho go => by
  obtain ⟨rfl, ho⟩ := ho
  obtain rfl := q2.non
  refine ⟨rfl, ?_⟩
  obtain ⟨F', _, _, p1⟩ := q1.fz s
  rw [isN_v p1]
  exact go _ _ _ _ _ .datB ho⟩
/-! ### one-place -/
def UnD (X : Cx) (f : Value → Sem Value) (o : O1) : Prop := ∃ r, UnR X f r ∧ ∀ {F H d1 v1 k Q'}, Same F H → Lk X.K F H v1 d1 → o d1 k → (∀ n v F' H' fv, Grow X.K F H n v F' H' fv → k n → Q' v H') → r v1 H Q'
def wU (o : O1) (wa : WX) : WE := fun Z ρ Q => wa Z ρ fun a ρ1 => lkD ρ1 a fun x => o x fun r => Q r ρ1
variable {E : EX} {a b : Expr} {wa wb : WX} {pos : Pos}
theorem d_un {op : UnaryOp} {o : O1} (ho : UnD X (unaryOp op) o) (ha : PE X a (rx X.K X.mg E wa)) : PE X (.UnaryOp op a pos) (rd X.K X.mg E (wU o wa)) :=
  let ⟨_, h1, h2⟩ := ho
  pe_imp (pe_un h1 ha) fun σ H Q ⟨ρ, F, fps, Z, Qd, st, hw, zc, k⟩ => ⟨ρ, F, fps, Z, _, st, hw, zc, fun a v1 ρ1 F1 H1 fps1 g1 q1 h1 => by
    obtain ⟨x, h3, l1⟩ := lk_rel g1.st.rs q1 h1
    exact h2 g1.st.wf.sub l1 h3 fun n v F' H' fv gr q => k _ _ _ _ _ _ _ (.after g1 (gr.got g1.st)) q⟩
def oNeg : O1 := fun x k => match x with
  | .int i => k (.dat (.int (-i)))
  | _ => False
theorem und_neg : UnD X (unaryOp .USub) oNeg := ⟨_, un_neg, fun {F H d1 v1 k Q'} s q1 ho go => by
  unfold oNeg at ho
  split at ho
  · obtain rfl := q1.int
    exact ⟨_, rfl, go _ _ _ _ _ .datI ho⟩
  · exact ho.elim⟩
end
end DL

namespace DL
open PySem PySem.Spec PyProof.Rows L2
section
variable {K : PySem.W.Frag} {mg : Str → Option Value} {E : EX} {σ σ' σ1 : Sg} {F H F' H' F1 H1 : Hp} {fps fps1 fps' : Nat → Addr → Prop} {fv : Addr → Prop} {Z : KX} {n : N} {v : V} {ρ ρ' ρ1 : En}
/-- a test is evaluated and goes on -/
theorem partT {w : WT} {k : Bool → En → Prop} {Q' : Bool → Hp → Prop} (st : Sta K F H ρ σ fps) (zc : ZC K mg E ρ σ F H fps Z) (h : w Z ρ k)
    (go : ∀ b ρ1 F1 H1 fps1, GotS K ρ σ F H fps ρ1 σ F1 H1 fps1 → k b ρ1 → Q' b H1) : rt K mg E w σ H Q' :=
  ⟨ρ, F, fps, Z, k, st, h, zc, go⟩
theorem rd_of {w : WE} {Q : N → En → Prop} {Q' : VK} (st : Sta K F H ρ σ fps) (zc : ZC K mg E ρ σ F H fps Z) (h : w Z ρ Q)
    (go : ∀ n v ρ' F' H' fps' fv, Got K ρ σ F H fps n v ρ' σ F' H' fps' fv → Q n ρ' → Q' v H') : rd K mg E w σ H Q' := ⟨ρ, F, fps, Z, Q, st, h, zc, go⟩
end
/-! ### and, or, not; a if t else b -/
def wAnd (wa wb : WT) : WT := fun Z ρ Q => wa Z ρ fun b ρ1 => if b = true then wb Z ρ1 Q else Q false ρ1
def wOr (wa wb : WT) : WT := fun Z ρ Q => wa Z ρ fun b ρ1 => if b = true then Q true ρ1 else wb Z ρ1 Q
def wNot (wa : WT) : WT := fun Z ρ Q => wa Z ρ fun b ρ1 => Q (!b) ρ1
def wIf (wt : WT) (wa wb : WE) : WE := fun Z ρ Q => wt Z ρ fun b ρ1 => if b = true then wa Z ρ1 Q else wb Z ρ1 Q
def vAnd (wa wb : WE) : WE := fun Z ρ Q => wa Z ρ fun n ρ1 => bD n fun b => if b = true then wb Z ρ1 Q else Q (.dat (.bool false)) ρ1
def vOr (wa wb : WE) : WE := fun Z ρ Q => wa Z ρ fun n ρ1 => bD n fun b => if b = true then Q (.dat (.bool true)) ρ1 else wb Z ρ1 Q
def vNot (wa : WE) : WE := fun Z ρ Q => wa Z ρ fun n ρ1 => bD n fun b => Q (.dat (.bool (!b))) ρ1
section
variable {X : Cx} {E : EX} {a b c e : Expr} {rest : List Expr} {wa wb : WE} {ta tb : WT} {pos : Pos}
theorem pw_imp {t t' : TT} (h : PW X e t) (i : ∀ σ H Q, t' σ H Q → t σ H Q) : PW X e t' := ⟨fun wh pins s σ H Q I q => h.run wh pins s σ H Q I (i σ H Q q)⟩
theorem q_and1 (ha : PT X a (rt X.K X.mg E ta)) : PW X (.BoolOp .And [a] pos) (rt X.K X.mg E ta) := pw_and1 ha
theorem q_or1 (ha : PT X a (rt X.K X.mg E ta)) : PW X (.BoolOp .Or [a] pos) (rt X.K X.mg E ta) := pw_or1 ha
theorem q_and (ha : PT X a (rt X.K X.mg E ta)) (hb : PW X (.BoolOp .And (b :: rest) pos) (rt X.K X.mg E tb)) : PW X (.BoolOp .And (a :: b :: rest) pos) (rt X.K X.mg E (wAnd ta tb)) :=
  pw_imp (pw_and ha hb) fun σ H Q ⟨ρ, F, fps, Z, Qd, st, hw, zc, k⟩ => partT st zc hw fun d ρ1 F1 H1 fps1 g q => by
    cases d with
    | true => exact iteT (partT g.st (zc.step g) (show tb Z ρ1 Qd from q) fun d ρ2 F2 H2 fps2 g2 q2 => k _ _ _ _ _ (g.trans g2) q2)
    | false => exact iteF (k _ _ _ _ _ g q)
theorem q_or (ha : PT X a (rt X.K X.mg E ta)) (hb : PW X (.BoolOp .Or (b :: rest) pos) (rt X.K X.mg E tb)) : PW X (.BoolOp .Or (a :: b :: rest) pos) (rt X.K X.mg E (wOr ta tb)) :=
  pw_imp (pw_or ha hb) fun σ H Q ⟨ρ, F, fps, Z, Qd, st, hw, zc, k⟩ => partT st zc hw fun d ρ1 F1 H1 fps1 g q => by
    cases d with
    | true => exact iteT (k _ _ _ _ _ g q)
    | false => exact iteF (partT g.st (zc.step g) (show tb Z ρ1 Qd from q) fun d ρ2 F2 H2 fps2 g2 q2 => k _ _ _ _ _ (g.trans g2) q2)
theorem t_not (ha : PT X a (rt X.K X.mg E ta)) : PT X (.UnaryOp .Not a pos) (rt X.K X.mg E (wNot ta)) :=
  pt_imp (pt_not ha) fun σ H Q ⟨ρ, F, fps, Z, Qd, st, hw, zc, k⟩ => partT st zc hw fun d ρ1 F1 H1 fps1 g q => k _ _ _ _ _ g q
theorem d_if (hc : PT X c (rt X.K X.mg E ta)) (ha : PE X a (rd X.K X.mg E wa)) (hb : PE X b (rd X.K X.mg E wb)) : PE X (.IfExp c a b pos) (rd X.K X.mg E (wIf ta wa wb)) :=
  pe_imp (pe_ifExp hc ha hb) fun σ H Q ⟨ρ, F, fps, Z, Qd, st, hw, zc, k⟩ => partT st zc hw fun d ρ1 F1 H1 fps1 g q => by
    cases d with
    | true => exact iteT (rd_of g.st (zc.step g) (show wa Z ρ1 Qd from q) fun n v ρ' F' H' fps' fv g2 q2 => k _ _ _ _ _ _ _ (g2.after g) q2)
    | false => exact iteF (rd_of g.st (zc.step g) (show wb Z ρ1 Qd from q) fun n v ρ' F' H' fps' fv g2 q2 => k _ _ _ _ _ _ _ (g2.after g) q2)
theorem d_one {op : BoolOp} (ha : PE X a (rd X.K X.mg E wa)) : PE X (.BoolOp op [a] pos) (rd X.K X.mg E wa) := pe_one ha
theorem partB {K : PySem.W.Frag} {mg : Str → Option Value} {E : EX} {σ : Sg} {F H : Hp} {fps : Nat → Addr → Prop} {Z : KX} {ρ : En} {w : WE} {k : Bool → En → Prop} {Q' : VK} (st : Sta K F H ρ σ fps) (zc : ZC K mg E ρ σ F H fps Z) (h : w Z ρ fun n ρ1 => bD n fun b => k b ρ1)
    (go : ∀ b ρ1 F1 H1 fps1, GotS K ρ σ F H fps ρ1 σ F1 H1 fps1 → k b ρ1 → Q' (.bl b) H1) : rd K mg E w σ H Q' := rd_of st zc h fun n v ρ' F' H' fps' fv g q => by
  obtain ⟨b, rfl, q⟩ := bD_of q
  obtain ⟨rfl, dq⟩ := g.rn
  cases dq
  exact go _ _ _ _ _ g.s q
theorem d_and (ha : PE X a (rd X.K X.mg E wa)) (hb : PE X (.BoolOp .And (b :: rest) pos) (rd X.K X.mg E wb)) : PE X (.BoolOp .And (a :: b :: rest) pos) (rd X.K X.mg E (vAnd wa wb)) :=
  pe_imp (pe_and ha hb) fun σ H Q ⟨ρ, F, fps, Z, Qd, st, hw, zc, k⟩ => partB st zc hw fun d ρ1 F1 H1 fps1 g q => ⟨d, rfl, by
    cases d with
    | true => exact iteT (rd_of g.st (zc.step g) (show wb Z ρ1 Qd from q) fun n v ρ' F' H' fps' fv g2 q2 => k _ _ _ _ _ _ _ (g2.after g) q2)
    | false => exact iteF (k _ _ _ _ _ _ _ (.of g (.bl false)) q)⟩
theorem d_or (ha : PE X a (rd X.K X.mg E wa)) (hb : PE X (.BoolOp .Or (b :: rest) pos) (rd X.K X.mg E wb)) : PE X (.BoolOp .Or (a :: b :: rest) pos) (rd X.K X.mg E (vOr wa wb)) :=
  pe_imp (pe_or ha hb) fun σ H Q ⟨ρ, F, fps, Z, Qd, st, hw, zc, k⟩ => partB st zc hw fun d ρ1 F1 H1 fps1 g q => ⟨d, rfl, by
    cases d with
    | true => exact iteT (k _ _ _ _ _ _ _ (.of g (.bl true)) q)
    | false => exact iteF (rd_of g.st (zc.step g) (show wb Z ρ1 Qd from q) fun n v ρ' F' H' fps' fv g2 q2 => k _ _ _ _ _ _ _ (g2.after g) q2)⟩
theorem d_not (ha : PE X a (rd X.K X.mg E wa)) : PE X (.UnaryOp .Not a pos) (rd X.K X.mg E (vNot wa)) :=
  pe_imp (pe_not ha) fun σ H Q ⟨ρ, F, fps, Z, Qd, st, hw, zc, k⟩ => partB st zc hw fun d ρ1 F1 H1 fps1 g q => ⟨d, rfl, k _ _ _ _ _ _ _ (.of g (.bl _)) q⟩
end

/-! ### arguments, displays -/
def aNil : WA := fun _ ρ Q => Q [] ρ
def aCons (w : WX) (ws : WA) : WA := fun Z ρ Q => w Z ρ fun a ρ1 => ws Z ρ1 fun as ρ2 => Q (a :: as) ρ2
theorem RelAr.mono {K : PySem.W.Frag} {F F' : Hp} {σ : Sg} (s : Same F F') : ∀ {as : List Ar} {vs : List V}, RelAr K F σ as vs → RelAr K F' σ as vs
  | _, _, .nil => .nil
  | _, _, .cons q t => .cons (q.mono s) (RelAr.mono s t)
section
variable {X : Cx} {E : EX} {e : Expr} {es : List Expr} {w : WX} {ws : WA} {pos : Pos}
theorem a_nil : PA X [] (ra X.K X.mg E aNil) := pa_imp pa_nil fun σ H Q ⟨ρ, F, fps, Z, Qd, st, hw, zc, k⟩ => k _ _ _ _ _ _ (.refl st) .nil hw
theorem a_cons (ha : PE X e (rx X.K X.mg E w)) (hr : PA X es (ra X.K X.mg E ws)) (hs : starEach (e :: es) X.env = (false, eval e X.env) :: starEach es X.env := by rfl) : PA X (e :: es) (ra X.K X.mg E (aCons w ws)) :=
  pa_imp (pa_cons ha hr hs) fun σ H Q ⟨ρ, F, fps, Z, Qd, st, hw, zc, k⟩ => ⟨ρ, F, fps, Z, _, st, hw, zc, fun a v ρ1 F1 H1 fps1 g1 q1 h1 =>
    ⟨ρ1, F1, fps1, Z, _, g1.st, h1, zc.step g1, fun as vs ρ2 F2 H2 fps2 g2 r2 q2 => k _ _ _ _ _ _ (g1.trans g2) (.cons (q1.mono g2.tr.grow) r2) q2⟩⟩
/-- all arguments as data -/
def datas : List Ar → Option (List PyData)
  | [] => some []
  | .d d :: as => (datas as).map (d :: ·)
  | .o _ :: _ => none
theorem datas_rel {K : PySem.W.Frag} {F : Hp} {σ : Sg} : ∀ {as : List Ar} {vs : List V} {ds : List PyData}, RelAr K F σ as vs → datas as = some ds → DqAll K F vs ds
  | _, _, _, .nil, h => by cases h; exact .nil
  | _, _, _, .cons (as := as) (.d q) t, h => by
    unfold datas at h
    cases e : datas as with
    | none => rw [e] at h; cases h
    | some ds => rw [e] at h; cases h; exact .cons q (datas_rel t e)
  | _, _, _, .cons (.o _) _, h => by cases h
/-- a display -/
def wTup (ws : WA) : WE := fun Z ρ Q => ws Z ρ fun as ρ1 => match datas as with
  | some ds => ds.length ≤ 100000 ∧ Q (.dat (.tuple ds)) ρ1
  | none => False
def wLst (ws : WA) : WE := fun Z ρ Q => ws Z ρ fun as ρ1 => match datas as with
  | some ds => ds.length ≤ 100000 ∧ Q (.lst ds) ρ1
  | none => False
theorem d_tup {x1} (h : PA X es (ra X.K X.mg E ws)) : PE X (.Tuple es x1 pos) (rd X.K X.mg E (wTup ws)) := pe_imp (pe_tupB h) fun σ H Q ⟨ρ, F, fps, Z, Qd, st, hw, zc, k⟩ =>
  ⟨ρ, F, fps, Z, _, st, hw, zc, fun as vs ρ1 F1 H1 fps1 g r q => by
    cases e : datas as with
    | none => rw [e] at q; exact q.elim
    | some ds =>
      rw [e] at q
      have dq := datas_rel r e
      exact ⟨by rw [dq.length]; exact sz5 q.1, fun p o ho hp => k _ _ _ _ _ _ _ (.after g (.tup g.st hp ho dq)) q.2⟩⟩
theorem d_lst (h : PA X es (ra X.K X.mg E ws)) : PE X (.List es pos) (rd X.K X.mg E (wLst ws)) := pe_imp (pe_lst h) fun σ H Q ⟨ρ, F, fps, Z, Qd, st, hw, zc, k⟩ =>
  ⟨ρ, F, fps, Z, _, st, hw, zc, fun as vs ρ1 F1 H1 fps1 g r q => by
    cases e : datas as with
    | none => rw [e] at q; exact q.elim
    | some ds =>
      rw [e] at q
      have dq := datas_rel r e
      exact ⟨by rw [dq.length]; exact sz5 q.1, fun p hp => k _ _ _ _ _ _ _ (.after g (.lst g.st hp dq)) q.2⟩⟩

/-! ### calls of built-ins -/
abbrev OA := En → List Ar → (N → Prop) → Prop
def CallD (X : Cx) (f : Value) (o : OA) : Prop := ∃ r, CallR X f r ∧ ∀ {F H ρ σ fps as vs k Q'}, Sta X.K F H ρ σ fps → RelAr X.K F σ as vs → o ρ as k → (∀ n v F' H' fv, Grow X.K F H n v F' H' fv → k n → Q' v H') → r vs H Q'
def wB1 (o : OA) (ws : WA) : WE := fun Z ρ Q => ws Z ρ fun as ρ1 => o ρ1 as fun n => Q n ρ1
theorem callB_imp {r : List V → Hp → VK → Prop} {o : OA} (h2 : ∀ {F H ρ σ fps as vs k Q'}, Sta X.K F H ρ σ fps → RelAr X.K F σ as vs → o ρ as k → (∀ n v F' H' fv, Grow X.K F H n v F' H' fv → k n → Q' v H') → r vs H Q') :
    ∀ σ H Q, rd X.K X.mg E (wB1 o ws) σ H Q → tCB r (ra X.K X.mg E ws) σ H Q := fun σ H Q ⟨ρ, F, fps, Z, Qd, st, hw, zc, k⟩ =>
  ⟨ρ, F, fps, Z, _, st, hw, zc, fun as vs ρ1 F1 H1 fps1 g r q => h2 g.st r q fun n v F' H' fv gr q => k _ _ _ _ _ _ _ (.after g (gr.got g.st)) q⟩
variable {x : Str} {p : Pos} {id T : String} {o : OA}
theorem d_callB (hc : CallD X (.builtin id) o) (hg : Gl X x) (hm : X.mg x = none) (hv : bootBuiltins x = some (.builtin id)) (ha : PA X (e :: es) (ra X.K X.mg E ws)) (hn : x ≠ "__name__" := by decide) (hdb : (x == ("__debug__" : Str)) = false := by decide)
    (he : starEach (e :: es) X.env = (false, eval e X.env) :: starEach es X.env := by rfl) (hpl : (backTo pos (starEach es X.env)).any (·.1) = false := by rfl) : PE X (.Call (.Name x p) (e :: es) [] pos) (rd X.K X.mg E (wB1 o ws)) :=
  let ⟨_, h1, h2⟩ := hc
  pe_imp (pe_callB h1 hg hm hv ha hn hdb he hpl) (callB_imp h2)
theorem d_callT (hc : CallD X (.type T) o) (hg : Gl X x) (hm : X.mg x = none) (hv : bootBuiltins x = some (.type T)) (ha : PA X (e :: es) (ra X.K X.mg E ws)) (hn : x ≠ "__name__" := by decide) (hdb : (x == ("__debug__" : Str)) = false := by decide)
    (he : starEach (e :: es) X.env = (false, eval e X.env) :: starEach es X.env := by rfl) (hpl : (backTo pos (starEach es X.env)).any (·.1) = false := by rfl) : PE X (.Call (.Name x p) (e :: es) [] pos) (rd X.K X.mg E (wB1 o ws)) :=
  let ⟨_, h1, h2⟩ := hc
  pe_imp (pe_callTy h1 hg hm hv ha hn hdb he hpl) (callB_imp h2)
end
end DL

namespace DL
open PySem PySem.Spec PyProof.Rows L2
/-! ### storing -/
def notP (ρ : En) (i : Nat) : Prop := match ρ[i]? with
  | some (.p _) => False
  | _ => True
section
variable {K : PySem.W.Frag} {mg : Str → Option Value} {E : EX} {σ σ' σ1 : Sg} {F H F' H' F1 H1 : Hp} {fps fps1 fps' : Nat → Addr → Prop} {fv : Addr → Prop} {Z : KX} {n : N} {v : V} {ρ ρ' ρ1 : En}
theorem Got.store {i : Nat} (g : Got K ρ σ F H fps n v ρ' σ' F' H' fps' fv) (hp : notP ρ' i) : GotS K ρ σ F H fps (ρ'.set i (.v n)) (σ'.set i (some v)) F' H' (if i < ρ'.length then setF fps' i fv else fps') := by
  by_cases hi : i < ρ'.length
  · rw [if_pos hi]
    have hi' : i < σ'.length := by rw [← g.rs.len]; exact hi
    have sub : ∀ b, Ow (setF fps' i fv) b → Or2 (Ow fps') fv b := fun b ⟨j, hj⟩ => by
      by_cases e : j = i
      · rw [setF_same' e] at hj; exact .inr hj
      · rw [setF_ne e] at hj; exact .inl ⟨j, hj⟩
    refine ⟨g.tr.less sub, ⟨g.wf.less sub, ⟨by rw [List.length_set, List.length_set]; exact g.rs.len, fun j m e => ?_, fun j h1 h2 => ?_, fun j l a hjl hj hl => ?_⟩⟩, g.pk.trans fun j m e => ?_⟩
    · by_cases ej : i = j
      · subst ej
        rw [List.getElem?_set_self hi] at e
        rcases e with e | e
        · cases e
          exact ⟨v, List.getElem?_set_self hi', by rw [setF_same' rfl]; exact g.rn⟩
        · cases e
      · rw [List.getElem?_set_ne ej] at e ⊢
        rw [setF_ne (Ne.symm ej)]
        exact g.rs.rel j m e
    · by_cases ej : i = j
      · subst ej
        exact absurd (List.getElem?_set_self hi) (h1 _)
      · rw [setF_ne (Ne.symm ej)]
        refine g.rs.emp j (fun n => ?_) fun n => ?_
        · have := h1 n; rw [List.getElem?_set_ne ej] at this; exact this
        · have := h2 n; rw [List.getElem?_set_ne ej] at this; exact this
    · by_cases e1 : j = i
      · rw [setF_same' e1] at hj
        by_cases e2 : l = i
        · exact hjl (e1.trans e2.symm)
        · rw [setF_ne e2] at hl; exact g.ap a hj ⟨l, hl⟩
      · rw [setF_ne e1] at hj
        by_cases e2 : l = i
        · rw [setF_same' e2] at hl; exact g.ap a hl ⟨j, hj⟩
        · rw [setF_ne e2] at hl; exact g.rs.dis j l a hjl hj hl
    · have ej : i ≠ j := fun e' => by subst e'; unfold notP at hp; rw [e] at hp; exact hp
      rw [List.getElem?_set_ne ej, List.getElem?_set_ne ej]
      exact ⟨⟨m, e⟩, rfl⟩
  · rw [if_neg hi]
    have hi' : ¬ i < σ'.length := by rw [← g.rs.len]; exact hi
    rw [List.set_eq_of_length_le (by omega), List.set_eq_of_length_le (by omega)]
    exact g.s
end
abbrev WG := PyData → En → (En → Prop) → Prop
abbrev WGs := List PyData → En → (En → Prop) → Prop
/-- only the slots of is are stored to -/
def Chg (is : List Nat) (σ σ' : Sg) : Prop := σ'.length = σ.length ∧ ∀ j, j ∉ is → σ'[j]? = σ[j]?
def rgB (l : Bool) (K : PySem.W.Frag) (is : List Nat) (w : WG) : TG := fun v σ H Q' => ∃ ρ F fps d Q, Sta K F H ρ σ fps ∧ DqB l K F v d ∧ w d ρ Q ∧ ∀ ρ' σ' F' H' fps', GotS K ρ σ F H fps ρ' σ' F' H' fps' → Chg is σ σ' → Q ρ' → Q' σ' H'
abbrev rg (K : PySem.W.Frag) (is : List Nat) (w : WG) : TG := rgB false K is w
def rgs (K : PySem.W.Frag) (is : List Nat) (w : WGs) : TGs := fun vs σ H Q' => ∃ ρ F fps ds Q, Sta K F H ρ σ fps ∧ DqAll K F vs ds ∧ w ds ρ Q ∧ ∀ ρ' σ' F' H' fps', GotS K ρ σ F H fps ρ' σ' F' H' fps' → Chg is σ σ' → Q ρ' → Q' σ' H'
def gN (i : Nat) : WG := fun d ρ k => notP ρ i ∧ k (ρ.set i (.v (.dat d)))
def gNil' : WGs := fun ds ρ k => ds = [] ∧ k ρ
def gCons' (g : WG) (gs : WGs) : WGs := fun ds ρ k => match ds with
  | d :: r => g d ρ fun ρ1 => gs r ρ1 k
  | [] => False
def gT (gs : WGs) : WG := fun d ρ k => match d with
  | .tuple ds => gs ds ρ k
  | _ => False
section
variable {X : Cx} {pos : Pos}
theorem pg_imp {e : Expr} {t t' : TG} (h : PG X e t) (i : ∀ v σ H Q, t' v σ H Q → t v σ H Q) : PG X e t' := ⟨fun pins s σ H v u Q I r q => h.run pins s σ H v u Q I r (i v σ H Q q)⟩
theorem pgs_imp {es : List Expr} {t t' : TGs} (h : PGs X es t) (i : ∀ v σ H Q, t' v σ H Q → t v σ H Q) : PGs X es t' := ⟨fun pins s σ H v u Q I r q => h.run pins s σ H v u Q I r (i v σ H Q q)⟩
variable {is : List Nat}
theorem g_name {i : Nat} {x : Str} (hN : X.N.Nodup) (hi : X.N[i]? = some x := by rfl) (hx : Loc X.env.scope x := by first | exact Or.inl rfl | exact Or.inr rfl) (hm : i ∈ is := by decide) (hf : X.fn x = true ∨ X.env.scope.names.lookup x = some .local := by first | exact .inl rfl | exact .inr rfl | assumption) : PG X (.Name x pos) (rg X.K is (gN i)) :=
  pg_imp (pg_name hN hi hx hf) fun v σ H Q ⟨ρ, F, fps, d, Qd, st, dq, hw, k⟩ => k _ _ _ _ _ ((Got.here st (show Dq _ _ _ _ from dq)).store hw.1) ⟨by rw [List.length_set], fun j hj => List.getElem?_set_ne fun e => hj (by subst e; exact hm)⟩ hw.2
theorem gs_nil : PGs X [] (rgs X.K is gNil') := pgs_imp pgs_nil fun vs σ H Q ⟨ρ, F, fps, ds, Qd, st, dq, hw, k⟩ => by
  obtain ⟨rfl, hw⟩ := hw
  cases dq
  exact ⟨rfl, k _ _ _ _ _ (.refl st) ⟨rfl, fun _ _ => rfl⟩ hw⟩
theorem gs_cons {e : Expr} {es : List Expr} {g : WG} {gs : WGs} (h1 : PG X e (rg X.K is g)) (h2 : PGs X es (rgs X.K is gs)) (hs : (assignEach (e :: es) X.env).map (·.2) = assign e X.env :: (assignEach es X.env).map (·.2) := by rfl) : PGs X (e :: es) (rgs X.K is (gCons' g gs)) :=
  pgs_imp (pgs_cons h1 h2 hs) fun vs σ H Q ⟨ρ, F, fps, ds, Qd, st, dq, hw, k⟩ => by
    cases dq with
    | nil => exact hw.elim
    | cons q qs => exact ⟨_, _, rfl, ρ, F, fps, _, _, st, q, hw, fun ρ1 σ1 F1 H1 fps1 g1 c1 h1 => ⟨ρ1, F1, fps1, _, _, g1.st, qs.mono g1.tr.grow, h1, fun ρ2 σ2 F2 H2 fps2 g2 c2 h2 => k _ _ _ _ _ (g1.trans g2) ⟨c2.1.trans c1.1, fun j hj => (c2.2 j hj).trans (c1.2 j hj)⟩ h2⟩⟩
theorem DqB.tup {l : Bool} {K : PySem.W.Frag} {F H : Hp} {v : V} {ds : List PyData} (s : Same F H) (q : DqB l K F v (.tuple ds)) : ∃ a xs, v = .ref a ∧ SqT K H a xs ∧ DqAll K F xs ds := by
  have w : DqW K F v (.tuple ds) := by
    cases l with
    | true => exact q
    | false => exact .inl q
  rcases w with w | ⟨a, xs, ds', rfl, e, h, t⟩
  · obtain ⟨a, xs, rfl, _, h, t⟩ := tupH s (.d w)
    exact ⟨a, xs, rfl, h, t⟩
  · cases e
    exact ⟨a, xs, rfl, Same.tup s h, t⟩
/-- n targets -/
def gsN (n : Nat) (gs : WGs) : WG := fun d ρ k => match d with
  | .tuple ds => ds.length = n ∧ gs ds ρ k
  | _ => False
theorem g_tup {l : Bool} {es : List Expr} {k : Nat} {gs : WGs} {n : Nat} (hc : X.calm = true) (h : PGs X es (rgs X.K is gs)) (hn : (assignEach es X.env).length = n := by rfl) (hst : (assignEach es X.env).findIdx? (·.1) = none := by rfl) : PG X (.Tuple es k pos) (rgB l X.K is (gsN n gs)) :=
  pg_imp (pg_tup hc h hn hst) fun v σ H Q ⟨ρ, F, fps, d, Qd, st, dq, hw, k⟩ => by
    cases d with
    | tuple ds =>
      obtain ⟨a, xs, rfl, hq, t⟩ := DqB.tup st.wf.sub dq
      exact ⟨a, xs, rfl, hq, by rw [t.length]; exact hw.1, ρ, F, fps, ds, Qd, st, t, hw.2, k⟩
    | _ => exact hw.elim
end

/-! ### statements -/
section
variable {X : Cx} {E : EX} {pos : Pos} {e : Expr} {st : Stmt} {rest : List Stmt}
def sNil : WS := fun _ D ρ => D.nx ρ
def sSeq (a b : WS) : WS := fun Z D ρ => a Z { D with nx := b Z D } ρ
def sSet (i : Nat) (w : WE) : WS := fun Z D ρ => w Z ρ fun n ρ1 => asD n fun d => notP ρ1 i ∧ D.nx (ρ1.set i (.v (.dat d)))
def sSetN (i : Nat) (w : WE) : WS := fun Z D ρ => w Z ρ fun n ρ1 => notP ρ1 i ∧ D.nx (ρ1.set i (.v n))
def sRet (w : WE) : WS := fun Z D ρ => w Z ρ D.rt
def sRetN : WS := fun _ D ρ => D.rt (.dat .none) ρ
def sExp (w : WE) : WS := fun Z D ρ => w Z ρ fun _ ρ1 => D.nx ρ1
def sIf (c : WT) (a b : WS) : WS := fun Z D ρ => c Z ρ fun k ρ1 => if k = true then a Z D ρ1 else b Z D ρ1
def sAsg (w : WE) (g : WG) : WS := fun Z D ρ => w Z ρ fun n ρ1 => asD n fun d => g d ρ1 D.nx
variable {K : PySem.W.Frag} {mg : Str → Option Value} {σ σ1 : Sg} {F H F1 H1 : Hp} {fps fps1 : Nat → Addr → Prop} {Z : KX} {ρ ρ1 : En} {DD : DE} {D : Ends}
/-- what is wanted behind, from a state on -/
structure SC (K : PySem.W.Frag) (mg : Str → Option Value) (E : EX) (ρ : En) (σ : Sg) (F H : Hp) (fps : Nat → Addr → Prop) (Z : KX) (DD : DE) (D : Ends) : Prop where
  z : ZC K mg E ρ σ F H fps Z
  s : ∀ ρ' σ' F' H' fps', GotS K ρ σ F H fps ρ' σ' F' H' fps' → (DD.nx ρ' → D.nx σ' H') ∧ (DD.bk ρ' → D.bk σ' H') ∧ (DD.ct ρ' → D.ct σ' H')
  r : ∀ n v ρ' σ' F' H' fps' fv, Got K ρ σ F H fps n v ρ' σ' F' H' fps' fv → DD.rt n ρ' → D.rt v H'
theorem SC.step (c : SC K mg E ρ σ F H fps Z DD D) (g : GotS K ρ σ F H fps ρ1 σ1 F1 H1 fps1) : SC K mg E ρ1 σ1 F1 H1 fps1 Z DD D :=
  ⟨c.z.step g, fun ρ' σ' F' H' fps' g2 => c.s _ _ _ _ _ (g.trans g2), fun n v ρ' σ' F' H' fps' fv g2 => c.r _ _ _ _ _ _ _ _ (g2.after g)⟩
theorem SC.nx (c : SC K mg E ρ σ F H fps Z DD D) {ρ' : En} {σ' : Sg} {F' H' : Hp} {fps' : Nat → Addr → Prop} (g : GotS K ρ σ F H fps ρ' σ' F' H' fps') (q : DD.nx ρ') : D.nx σ' H' := (c.s _ _ _ _ _ g).1 q
theorem rs_of {w : WS} (st : Sta K F H ρ σ fps) (c : SC K mg E ρ σ F H fps Z DD D) (h : w Z DD ρ) : rs K mg E w D σ H := ⟨ρ, F, fps, Z, DD, st, h, c.z, c.s, c.r⟩
theorem rs_open {w : WS} (h : rs K mg E w D σ H) : ∃ ρ F fps Z DD, Sta K F H ρ σ fps ∧ SC K mg E ρ σ F H fps Z DD D ∧ w Z DD ρ :=
  let ⟨ρ, F, fps, Z, DD, st, hw, z, s, r⟩ := h
  ⟨ρ, F, fps, Z, DD, st, ⟨z, s, r⟩, hw⟩
theorem SC.withNx {nx : En → Prop} {nx' : Sg → Hp → Prop} (c : SC K mg E ρ σ F H fps Z DD D) (h : ∀ ρ' σ' F' H' fps', GotS K ρ σ F H fps ρ' σ' F' H' fps' → nx ρ' → nx' σ' H') : SC K mg E ρ σ F H fps Z { DD with nx := nx } { D with nx := nx' } :=
  ⟨c.z, fun ρ' σ' F' H' fps' g => ⟨h _ _ _ _ _ g, (c.s _ _ _ _ _ g).2⟩, c.r⟩
variable {a b : WS} {w : WE} {c : WT}
theorem ss_nil : PSs X [] (rs X.K X.mg E sNil) := pss_imp pss_nil fun D σ H h => by
  obtain ⟨ρ, F, fps, Z, DD, st, sc, hw⟩ := rs_open h
  exact sc.nx (.refl st) hw
theorem ss_cons (h1 : PS X st (rs X.K X.mg E a)) (h2 : PSs X rest (rs X.K X.mg E b)) : PSs X (st :: rest) (rs X.K X.mg E (sSeq a b)) := pss_imp (pss_cons h1 h2) fun D σ H h => by
  obtain ⟨ρ, F, fps, Z, DD, st, sc, hw⟩ := rs_open h
  exact rs_of st (sc.withNx fun ρ' σ' F' H' fps' g q => rs_of g.st (sc.step g) q) hw
theorem ss_one (h1 : PS X st (rs X.K X.mg E a)) : PSs X [st] (rs X.K X.mg E a) := pss_one h1
theorem s_pass : PS X (.Pass pos) (rs X.K X.mg E sNil) := ps_imp ps_pass fun D σ H h => by
  obtain ⟨ρ, F, fps, Z, DD, st, sc, hw⟩ := rs_open h
  exact sc.nx (.refl st) hw
theorem s_set {i : Nat} {x : Str} {pos' : Pos} (hN : X.N.Nodup) (hi : X.N[i]? = some x) (hx : Loc X.env.scope x) (he : PE X e (rd X.K X.mg E w)) (hs : swapsWith e (some (.Name x pos')) pos.line X.env = pure false := by rfl) (hf : X.fn x = true ∨ X.env.scope.names.lookup x = some .local := by first | exact .inl rfl | exact .inr rfl | assumption) :
    PS X (.Assign [.Name x pos'] e pos) (rs X.K X.mg E (sSet i w)) := ps_imp (ps_set hN hi hx he hs hf) fun D σ H h => by
  obtain ⟨ρ, F, fps, Z, DD, st, sc, hw⟩ := rs_open h
  exact part st sc.z hw fun d v ρ1 F1 H1 fps1 g q h1 => sc.nx ((Got.of g q).store h1.1) h1.2
theorem s_setN {i : Nat} {x : Str} {pos' : Pos} (hN : X.N.Nodup) (hi : X.N[i]? = some x) (hx : Loc X.env.scope x) (he : PE X e (rd X.K X.mg E w)) (hs : swapsWith e (some (.Name x pos')) pos.line X.env = pure false := by rfl) (hf : X.fn x = true ∨ X.env.scope.names.lookup x = some .local := by first | exact .inl rfl | exact .inr rfl | assumption) :
    PS X (.Assign [.Name x pos'] e pos) (rs X.K X.mg E (sSetN i w)) := ps_imp (ps_set hN hi hx he hs hf) fun D σ H h => by
  obtain ⟨ρ, F, fps, Z, DD, st, sc, hw⟩ := rs_open h
  exact rd_of st sc.z hw fun n v ρ1 F1 H1 fps1 fv g h1 => sc.nx (g.store h1.1) h1.2
theorem s_asg {tg : Expr} {g : WG} {is : List Nat} (he : PE X e (rd X.K X.mg E w)) (hg : PG X tg (rg X.K is g)) (hs : swapsWithSole [tg] e pos.line X.env = pure false := by rfl) (hw : swappedStores [tg] e X.env = pure none := by rfl)
    (h1 : (assignEach [tg] X.env).map (·.2) = [assign tg X.env] := by rfl) : PS X (.Assign [tg] e pos) (rs X.K X.mg E (sAsg w g)) := ps_imp (ps_asg he hg hs hw h1) fun D σ H h => by
  obtain ⟨ρ, F, fps, Z, DD, st, sc, hw⟩ := rs_open h
  exact part st sc.z hw fun d v ρ1 F1 H1 fps1 g1 q h1 => ⟨ρ1, F1, fps1, d, _, g1.st, q, h1, fun ρ' σ' F' H' fps' g2 _ q2 => sc.nx (g1.trans g2) q2⟩
theorem s_ret (he : PE X e (rd X.K X.mg E w)) : PS X (.Return (some e) pos) (rs X.K X.mg E (sRet w)) := ps_imp (ps_ret he) fun D σ H h => by
  obtain ⟨ρ, F, fps, Z, DD, st, sc, hw⟩ := rs_open h
  exact rd_of st sc.z hw fun n v ρ1 F1 H1 fps1 fv g h1 => sc.r _ _ _ _ _ _ _ _ g h1
theorem s_retN : PS X (.Return none pos) (rs X.K X.mg E sRetN) := ps_imp ps_retN fun D σ H h => by
  obtain ⟨ρ, F, fps, Z, DD, st, sc, hw⟩ := rs_open h
  exact sc.r _ _ _ _ _ _ _ _ (.here st .non) hw
theorem s_exp (he : PE X e (rd X.K X.mg E w)) (hs : swapsWith e none pos.line X.env = pure false := by rfl) : PS X (.Expr e pos) (rs X.K X.mg E (sExp w)) := ps_imp (ps_expr he hs) fun D σ H h => by
  obtain ⟨ρ, F, fps, Z, DD, st, sc, hw⟩ := rs_open h
  exact rd_of st sc.z hw fun n v ρ1 F1 H1 fps1 fv g h1 => sc.nx g.s h1
theorem s_if {ce : Expr} {sa sb : List Stmt} (hc : PT X ce (rt X.K X.mg E c)) (ha : PSs X sa (rs X.K X.mg E a)) (hb : PSs X sb (rs X.K X.mg E b)) : PS X (.If ce sa sb pos) (rs X.K X.mg E (sIf c a b)) := ps_imp (ps_if hc ha hb) fun D σ H h => by
  obtain ⟨ρ, F, fps, Z, DD, st, sc, hw⟩ := rs_open h
  exact partT st sc.z hw fun k ρ1 F1 H1 fps1 g q => by
    cases k with
    | true => exact iteT (rs_of g.st (sc.step g) (show a Z DD ρ1 from q))
    | false => exact iteF (rs_of g.st (sc.step g) (show b Z DD ρ1 from q))
end
end DL

namespace DL
open PySem PySem.Spec PyProof.Rows L2
/-! ### a list or a tuple -/
def SqB (K : PySem.W.Frag) (H : Hp) (a : Addr) (xs : List V) : Bool → Prop
  | true => SqT K H a xs
  | false => SqL K H a xs
def IsB (h : Heap) (a : Addr) (its : Array Value) : Bool → Prop
  | true => h.IsTuple a its
  | false => h.IsList a its
def ItB (h : Heap) (it a : Addr) (i : Nat) : Bool → Prop
  | true => h.IsTupleIter it a i
  | false => h.IsListIter it a i
def objB (a : Addr) : Bool → Obj
  | true => { cls := .type "tuple_iterator", data := .fields #[.ref a, .int 0 0] }
  | false => { cls := .type "list_iterator", data := .fields #[.ref a, .int 0 0] }
theorem Same.sqB {K : PySem.W.Frag} {H H' : Hp} {a : Addr} {xs : List V} {b : Bool} (e : Same H H') (h : SqB K H a xs b) : SqB K H' a xs b := by
  cases b with
  | true => exact Same.tup e h
  | false => exact e.seq h
section
variable {X : Cx} {pins : List (Addr × Obj)} {σ : Sg} {H : Hp} {s : Shared} {a : Addr} {xs ys : List V} {b : Bool}
theorem inv_seqB (I : Inv X pins σ H s) (h : SqB X.K H a xs b) : ∃ its : List Value, Vals xs its ∧ IsB s.heap a its.toArray b ∧ xs.length ≤ sizeLine := by
  cases b with
  | true => obtain ⟨its, r, p, z⟩ := I.tuple h; exact ⟨its, r, p, z⟩
  | false => obtain ⟨its, r, p, z⟩ := I.list h; exact ⟨its, r, p.isList, z⟩
theorem inv_seqB_inj (I : Inv X pins σ H s) (h : SqB X.K H a xs b) (h' : SqB X.K H a ys b) : xs = ys := by
  cases b with
  | true => exact I.tuple_inj h h'
  | false => exact I.list_inj h h'
theorem drawsB {prog : Program} {w : World} {A : Around} (hh : A.handled = none) (it l : Addr) (hne : l ≠ it) (its : Array Value) (b : Bool) :
    Draws prog w A it [it, l] its.size (fun i v => its[i]? = some v) (fun i h => ItB h it l i b ∧ IsB h l its b) := by
  cases b with
  | true => exact Draws.tuple hh it l hne its
  | false => exact Draws.list hh it l hne its
theorem beginsB (l : Addr) (its : Array Value) (b : Bool) : Begins (.ref l) (objB l b) fun h => IsB h l its b := by
  cases b with
  | true => exact begins_tuple l its
  | false => exact begins_list l its
theorem itB_start {h : Heap} {it l : Addr} {b : Bool} (e : h.get? it = some (objB l b)) : ItB h it l 0 b := by
  cases b with
  | true => exact ⟨_, e, rfl, rfl⟩
  | false => exact ⟨_, e, rfl, rfl⟩
theorem itB_at {h h' : Heap} {it l : Addr} {i : Nat} {b : Bool} (x : ItB h it l i b) (k : ∀ o, h.get? it = some o → h'.get? it = some o) : ItB h' it l i b := by
  cases b with
  | true => exact Heap.IsTupleIter.at x k
  | false => exact Heap.IsListIter.at x k
theorem itB_obj {h : Heap} {it l : Addr} {i : Nat} {b : Bool} (x : ItB h it l i b) : ∃ o, h.get? it = some o ∧ ∀ v, o.data ≠ .cell v := by
  cases b with
  | true => obtain ⟨o, e, _, d⟩ := x; exact ⟨o, e, fun v q => by rw [d] at q; cases q⟩
  | false => obtain ⟨o, e, _, d⟩ := x; exact ⟨o, e, fun v q => by rw [d] at q; cases q⟩
theorem isB_lt {h : Heap} {l : Addr} {its : Array Value} {b : Bool} (x : IsB h l its b) : l < h.objs.size := by
  cases b with
  | true => obtain ⟨o, e, _⟩ := x; exact Heap.lt_size e
  | false => obtain ⟨o, e, _⟩ := x; exact Heap.lt_size e
end

/-! ### enumerate(v) -/
def ItE (K : PySem.W.Frag) (a : Addr) (b : Bool) : It :=
  ⟨fun i H => ∃ (xs : List V) (x : V), SqB K H a xs b ∧ xs[i]? = some x, fun i H v H' => ∃ T x, v = .ref T ∧ H T = none ∧ H' = upd H T (.tup [.int (i : Nat), x]) ∧ ∀ xs, SqB K H a xs b → xs[i]? = some x, fun i H => ∃ xs : List V, SqB K H a xs b ∧ xs.length ≤ i⟩
theorem turn_enumB {P : Program} {w : World} {K : PySem.W.Frag} {elts : List Expr} {kk : Nat} {tpos : Pos} (a e it : Addr) (b : Bool) :
    Turn P w K (.Tuple elts kk tpos) (ItE K a b) [e, it] e (fun i h => (∃ old, IsEnum h e it ((0 : Int) + (i : Int)) old) ∧ ItB h it a i b ∧ e ≠ it ∧ a ≠ it ∧ a ≠ e) where
  mem := by simp
  obj := fun i h st c hc => by
    obtain ⟨⟨old, he⟩, hi, _⟩ := st
    rcases (show c = e ∨ c = it by simpa using hc) with z | z
    · rw [z]; exact ⟨_, he, fun v q => nomatch q⟩
    · rw [z]; exact itB_obj hi
  keep := fun i h h' st k => let ⟨⟨old, he⟩, hi, hne, n2, n3⟩ := st; ⟨⟨old, k e (by simp) _ he⟩, itB_at hi fun o q => k it (by simp) o q, hne, n2, n3⟩
  item := by
    intro X hP hw hK hc i pins s σ H E I hf st hg
    subst hP hw hK
    obtain ⟨ho, hit, hne, n2, n3⟩ := st
    obtain ⟨xs, x, hq, hx⟩ := hg
    obtain ⟨its, rv, p, hz⟩ := inv_seqB I hq
    obtain ⟨u, hu, ru⟩ := rv.get hx
    obtain ⟨old, he⟩ := ho
    have hel : e < s.heap.objs.size := Heap.lt_size he
    have hil : it < s.heap.objs.size := by obtain ⟨o, q, _⟩ := itB_obj hit; exact Heap.lt_size q
    have hlt : i < its.toArray.size := by
      rw [List.size_toArray]
      exact (List.getElem?_eq_some_iff.mp hu).1
    have W := GoesN.enumFrom (prog := X.prog) (w := X.w) (A := X.A) (elts := elts) (x1 := kk) (pos := tpos) 0 (drawsB (prog := X.prog) (w := X.w) (A := X.A.in1) (I.ok.hd hc) it a n2 its.toArray b) e hne (by simp [hne, Ne.symm n3]) (by simp)
    refine W.goes i s _ _ hlt ⟨⟨old, he⟩, hit, p⟩ fun v h' tk hY st' hk htk => ?_
    obtain ⟨T, t, y, rfl, hT, hy, hI⟩ := hY
    obtain ⟨⟨old', he'⟩, hit', _⟩ := st'
    have ey : y = u := by
      have : its.toArray[i]? = some u := by simpa using hu
      rw [this] at hy
      exact (Option.some.inj hy).symm
    subst ey
    have new : ObjOk X.prog X.w (upd H T (.tup [.int (i : Nat), x])) h' T (.tup [.int (i : Nat), x]) :=
      ⟨by show 2 ≤ sizeLine; decide, [.int (0 + (i : Int)) t, y], .cons ⟨t, by rw [Int.zero_add]⟩ (.cons ru .nil), hI⟩
    have I1 : Inv X pins σ (upd H T (.tup [.int (i : Nat), x])) { s with heap := h', toks := tk } := I.turnedNew (ch := [e, it]) hk hf hT new
    refine ⟨.ref T, _, I1, rfl, ⟨T, x, rfl, I.hok.fresh hT, rfl, fun ys hy => by rw [inv_seqB_inj I hy hq]; exact hx⟩, ⟨⟨_, he'⟩, hit', hne, n2, n3⟩, fun c hc => ?_⟩
    have hc' : c < s.heap.objs.size := by
      rcases (show c = e ∨ c = it by simpa using hc) with z | z
      · rw [z]; exact hel
      · rw [z]; exact hil
    rw [upd_ne (Nat.ne_of_lt (Nat.lt_of_lt_of_le hc' hT))]
    exact (hf c hc).1
  done := by
    intro X hP hw hK hc i pins s σ H E I hf st hg
    subst hP hw hK
    obtain ⟨⟨old, he⟩, hit, hne, n2, n3⟩ := st
    obtain ⟨xs, hq, hx⟩ := hg
    obtain ⟨its, rv, p, hz⟩ := inv_seqB I hq
    have hlen := rv.length
    have nx : its.toArray[i]? = none := by
      have : its.length ≤ i := by omega
      simp [this]
    have fin : ∀ h' : Heap, Heap.ExtBut it s.heap h' → Inv X pins σ H { s with heap := h' } := fun h' eb => by
      obtain ⟨f0, f1, f2, f3, f4, f5⟩ := hf it (by simp)
      exact I.turned (t' := s.toks) (fun c o hc q => eb c o hc q) f0 f1 f3 f4 f5
    have hT : s.TypeIs (.ref e) "enumerate" := ⟨_, he, rfl⟩
    unfold pyNext
    refine wpAny_bind (wpAny_attempt (wpAny_callSpecial?_slot (name := Str.ofString "__next__") hT F.slot_enumerate_next
      (wpAny_call_entry F.slot_enumerate_next hT F.entry_enumerate_next ?_ (F.args_enumerate_next_1 _))))
    show wpAny _ _ (field (.ref e) 2 >>= _) _ _ _
    refine wpAny_bind (wpAny_field he rfl (x := .ref it) rfl ?_)
    have stop : ∀ {Q : Value → Shared → Prop} {E' : Value → Shared → Prop}, (∀ h' z, Heap.ExtBut it s.heap h' → (∃ o, h'.get? z = some o ∧ o.cls = .type "StopIteration") → E' (.ref z) { s with heap := h' }) → wpAny (model X.prog X.w) X.A.in1 (Builtin.SmallTypes.nextOf (.ref it)) Q E' s := fun {Q E'} hE => by
      cases b with
      | true => exact wpAny_nextOf_tuple_end (I.ok.hd hc) hit p nx hE
      | false => exact wpAny_nextOf_list_end (I.ok.hd hc) hit p nx hE
    refine wpAny_bind (stop fun h' z eb hz => ?_)
    obtain ⟨o, ho, hcl⟩ := hz
    refine wpAny_bind (wpAny_isInstance (T := "StopIteration") (b := true) ⟨o, ho, hcl⟩ isSubtype_stop ?_)
    exact wpAny_pure ⟨rfl, fin h' eb⟩
  self := fun A i s Q E st h => let ⟨⟨_, he⟩, _⟩ := st; wpAny_pyIter_enum he h
open AutoSeq1 (wpAny_loadPart') in
theorem meets_enum_new1 {v : Value} {o : Obj} {H : Heap → Prop} (B : Begins v o H) :
    Meets (Builtin.«enumerate.__new__» ⟨[.type "enumerate", v], []⟩) (fun _ R s => H s.heap ∧
      R (.ok (.ret (.ref (s.heap.push o).objs.size))) { s with heap := (s.heap.push o).push { cls := .type "enumerate", data := .fields #[.none, .bool false, .ref s.heap.objs.size, rawInt 0, .none, .none] } }) :=
  .of_wp fun prog w A R s h => by
    obtain ⟨hp, g, d, tk, os⟩ := s; obtain ⟨hl, h⟩ := h
    have hsub := sub_enumerate
    have q1 : ∀ {A' : Around} {E : Value → Shared → Prop} {Q : Value → Shared → Prop}, Q (.ref hp.objs.size) ⟨hp.push o, g, d, tk, os⟩ → wpAny (model prog w) A' (pyIter v) Q E ⟨hp, g, d, tk, os⟩ := fun q => B.iter prog w _ _ ⟨hp, g, d, tk, os⟩ _ hl q
    wp_walk using q1
    refine wpAny_stack_any fun st => wpAny_pure ?_
    split
    · rename_i c _ _ _ _ _
      cases (c == Value.type "enumerate")
      · wp_walk using q1
        exact ⟨_, rfl, h⟩
      · wp_walk using q1
        exact ⟨_, rfl, h⟩
    · wp_walk using q1
      exact ⟨_, rfl, h⟩
theorem call_enum1 {prog : Program} {w : World} {A : Around} {E : Value → Shared → Prop} {s : Shared} {v : Value} {o : Obj} {H : Heap → Prop} {Q : Value → Shared → Prop} (B : Begins v o H) (h1 : H s.heap)
    (h : ∀ h', IsEnum h' (s.heap.objs.size + 1) s.heap.objs.size 0 .none → h'.get? s.heap.objs.size = some o → (∀ b o, s.heap.get? b = some o → h'.get? b = some o) → Q (.ref (s.heap.objs.size + 1)) { s with heap := h' }) :
    wpAny (model prog w) A (call (.type "enumerate") [v]) Q E s := by
  refine callType_new F.called_enumerate (by decide) (F.typeCall_enumerate_1 _) (F.newCall_enumerate_1 _) (fun obj => F.args_object_init_2 obj _) F.entry_enumerate_new (meets_enum_new1 B) ⟨h1, ?_⟩
  have hz : (s.heap.push o).objs.size = s.heap.objs.size + 1 := Heap.size_push ..
  show _ ∧ _
  rw [hz]
  have he : IsEnum ((s.heap.push o).push { cls := .type "enumerate", data := .fields #[.none, .bool false, .ref s.heap.objs.size, rawInt 0, .none, .none] }) (s.heap.objs.size + 1) s.heap.objs.size 0 .none := by
    have := Heap.get?_push_size (s.heap.push o) (o := { cls := .type "enumerate", data := .fields #[.none, .bool false, .ref s.heap.objs.size, rawInt 0, .none, .none] }) rfl
    rw [hz] at this; exact this
  exact ⟨⟨_, he, rfl⟩, h _ he (Heap.get?_push_of_some _ (Heap.get?_push_size _ B.free)) fun b o x => Heap.get?_push_of_some _ (Heap.get?_push_of_some _ x)⟩
def iEnumB (K : PySem.W.Frag) (ta : TA) : TI := fun σ H R => ta σ H fun vs H1 => ∃ a xs b, vs = [.ref a] ∧ SqB K H1 a xs b ∧ R (ItE K a b) H1
theorem pi_enumB {X : Cx} {e : Expr} {ta : TA} {p pos tpos : Pos} {elts : List Expr} {kk : Nat} (hg : Gl X "enumerate") (hm : X.mg "enumerate" = none) (ha : PA X [e] ta) (hs : starEach [e] X.env = [(false, eval e X.env)] := by rfl) :
    PI X (.Tuple elts kk tpos) (.Call (.Name "enumerate" p) [e] [] pos) (iEnumB X.K ta) := by
  refine ⟨fun pins s σ H R I h => ?_⟩
  refine Call_ (ld_blt I hg hm boot_enumerate (PyProof.Rows.callWith_type1 (thn (ha.run pos pins s σ H _ I h) fun us s1 ⟨vs, H1, I1, r1, q1⟩ => ?_) hs rfl))
  obtain ⟨a, xs, b, ex, hq, q⟩ := q1
  subst ex
  cases r1 with
  | cons r rr =>
    cases rr
    cases r
    obtain ⟨its, rv, p', hz⟩ := inv_seqB I1 hq
    refine call_enum1 (beginsB a its.toArray b) p' fun h' he hit hk => wpAny_pyIter_enum he ?_
    have I2 : Inv X pins σ H1 { s1 with heap := h' } := I1.kept (t' := s1.toks) hk
    have al := isB_lt p'
    refine ⟨s1.heap.objs.size + 1, [s1.heap.objs.size + 1, s1.heap.objs.size], _, _, H1, rfl, I2, turn_enumB a (s1.heap.objs.size + 1) s1.heap.objs.size b, ⟨⟨.none, he⟩, itB_start hit, Nat.succ_ne_self _, Nat.ne_of_lt al, Nat.ne_of_lt (Nat.lt_succ_of_lt al)⟩, fun c hc => ?_, q⟩
    have hle : s1.heap.objs.size ≤ c := by
      rcases (show c = s1.heap.objs.size + 1 ∨ c = s1.heap.objs.size by simpa using hc) with z | z
      · rw [z]; exact Nat.le_add_right _ _
      · rw [z]; exact Nat.le_refl _
    exact I1.fpOk hle (I1.hok.fresh hle)
end DL

namespace DL
open PySem PySem.Spec PyProof.Rows L2
/-! ### zip(v, u) -/
def ItZ (K : PySem.W.Frag) (a c : Addr) (b d : Bool) : It :=
  ⟨fun i H => ∃ (xs ys : List V) (x y : V), SqB K H a xs b ∧ SqB K H c ys d ∧ xs[i]? = some x ∧ ys[i]? = some y,
    fun i H v H' => ∃ T x y, v = .ref T ∧ H T = none ∧ H' = upd H T (.tup [x, y]) ∧ (∀ xs, SqB K H a xs b → xs[i]? = some x) ∧ ∀ ys, SqB K H c ys d → ys[i]? = some y,
    fun i H => ∃ xs ys : List V, SqB K H a xs b ∧ SqB K H c ys d ∧ i = min xs.length ys.length⟩
/-- the cells of a zip, over what stands below n -/
structure Zc (n z TI TO i1 i2 a c : Addr) : Prop where
  hz : z = n + 4
  hTI : TI = n + 2
  hTO : TO = n + 3
  h1 : i1 = n
  h2 : i2 = n + 1
  ha : a < n
  hc : c < n
theorem getU {its : List Value} {i : Nat} {u y : Value} (h : its[i]? = some u) (h' : its.toArray[i]? = some y) : y = u := by
  have : its.toArray[i]? = some u := by simpa using h
  rw [this] at h'
  exact (Option.some.inj h').symm
theorem turn_zipB {P : Program} {w : World} {K : PySem.W.Frag} {elts : List Expr} {kk : Nat} {tpos : Pos} {n a c z TI TO i1 i2 : Addr} (b d : Bool) (D : Zc n z TI TO i1 i2 a c) :
    Turn P w K (.Tuple elts kk tpos) (ItZ K a c b d) [z, TI, TO, i1, i2] z (fun i h => IsZip h z TI TO .none ∧ IsTupOf2 h TI (.ref i1) (.ref i2) ∧ (∃ x y, IsTupOf2 h TO x y) ∧ ItB h i1 a i b ∧ ItB h i2 c i d) where
  mem := by simp
  obj := fun i h st e he => by
    obtain ⟨hz, hTI, ⟨x, y, hTO⟩, h1, h2⟩ := st
    rcases (show e = z ∨ e = TI ∨ e = TO ∨ e = i1 ∨ e = i2 by simpa using he) with q | q | q | q | q
    · rw [q]; exact ⟨_, hz, fun v q => nomatch q⟩
    · rw [q]; exact ⟨_, hTI, fun v q => nomatch q⟩
    · rw [q]; exact ⟨_, hTO, fun v q => nomatch q⟩
    · rw [q]; exact itB_obj h1
    · rw [q]; exact itB_obj h2
  keep := fun i h h' st k => by
    obtain ⟨hz, hTI, ⟨x, y, hTO⟩, h1, h2⟩ := st
    exact ⟨k z (by simp) _ hz, k TI (by simp) _ hTI, ⟨x, y, k TO (by simp) _ hTO⟩, itB_at h1 fun o q => k i1 (by simp) o q, itB_at h2 fun o q => k i2 (by simp) o q⟩
  item := by
    intro X hP hw hK hc i pins s σ H E I hf st hg
    subst hP hw hK
    obtain ⟨hz, hTI, hTO, h1, h2⟩ := st
    obtain ⟨xs, ys, x, y, hqx, hqy, hx, hy⟩ := hg
    obtain ⟨its, rv, p, _⟩ := inv_seqB I hqx
    obtain ⟨its2, rv2, p2, _⟩ := inv_seqB I hqy
    obtain ⟨u, hu, ru⟩ := rv.get hx
    obtain ⟨u2, hu2, ru2⟩ := rv2.get hy
    have S : ZipSep2 z TI TO i1 i2 [i1, a] [i2, c] := by
      obtain ⟨e1, e2, e3, e4, e5, l1, l2⟩ := D
      subst e1 e2 e3 e4 e5
      exact zip_sep2 (fp1 := [a]) (fp2 := [c]) (fun q hq => by rw [List.mem_singleton.mp hq]; exact l1) (fun q hq => by rw [List.mem_singleton.mp hq]; exact l2)
    have n1 : a ≠ i1 := by rw [D.h1]; exact Nat.ne_of_lt D.ha
    have n2 : c ≠ i2 := by rw [D.h2]; exact Nat.ne_of_lt (Nat.lt_succ_of_lt D.hc)
    have l1 : i < its.toArray.size := by rw [List.size_toArray]; exact (List.getElem?_eq_some_iff.mp hu).1
    have l2 : i < its2.toArray.size := by rw [List.size_toArray]; exact (List.getElem?_eq_some_iff.mp hu2).1
    have W := GoesN.zip2 (prog := X.prog) (w := X.w) (A := X.A) (elts := elts) (x1 := kk) (pos := tpos) S (drawsB (prog := X.prog) (w := X.w) (A := X.A.in1) (I.ok.hd hc) i1 a n1 its.toArray b) (drawsB (prog := X.prog) (w := X.w) (A := X.A.in1) (I.ok.hd hc) i2 c n2 its2.toArray d)
    refine W.goes i s _ _ (Nat.lt_min.mpr ⟨l1, l2⟩) ⟨hz, hTI, hTO, ⟨h1, p⟩, h2, p2⟩ fun v h' tk hY st' hk htk => ?_
    obtain ⟨T, v1, v2, rfl, hT, hy1, hy2, hI⟩ := hY
    obtain ⟨hz', hTI', hTO', ⟨h1', _⟩, h2', _⟩ := st'
    obtain rfl := getU hu hy1
    obtain rfl := getU hu2 hy2
    have new : ObjOk X.prog X.w (upd H T (.tup [x, y])) h' T (.tup [x, y]) := ⟨by show 2 ≤ sizeLine; decide, [v1, v2], .cons ru (.cons ru2 .nil), hI⟩
    have sub : ∀ q, q ∈ [z, TO, i1, i2] → q ∈ [z, TI, TO, i1, i2] := fun q hq => by
      rcases (show q = z ∨ q = TO ∨ q = i1 ∨ q = i2 by simpa using hq) with e | e | e | e <;> simp [e]
    have I1 : Inv X pins σ (upd H T (.tup [x, y])) { s with heap := h', toks := tk } := I.turnedNew (ch := [z, TO, i1, i2]) hk (fun q hq => hf q (sub q hq)) hT new
    refine ⟨.ref T, _, I1, rfl, ⟨T, x, y, rfl, I.hok.fresh hT, rfl, fun l hl => by rw [inv_seqB_inj I hl hqx]; exact hx, fun l hl => by rw [inv_seqB_inj I hl hqy]; exact hy⟩, ⟨hz', hTI', hTO', h1', h2'⟩, fun q hq => ?_⟩
    have hq' : q < s.heap.objs.size := by
      rcases (show q = z ∨ q = TI ∨ q = TO ∨ q = i1 ∨ q = i2 by simpa using hq) with e | e | e | e | e
      · rw [e]; exact Heap.lt_size hz
      · rw [e]; exact Heap.lt_size hTI
      · obtain ⟨_, _, r⟩ := hTO; rw [e]; exact Heap.lt_size r
      · obtain ⟨o, r, _⟩ := itB_obj h1; rw [e]; exact Heap.lt_size r
      · obtain ⟨o, r, _⟩ := itB_obj h2; rw [e]; exact Heap.lt_size r
    rw [upd_ne (Nat.ne_of_lt (Nat.lt_of_lt_of_le hq' hT))]
    exact (hf q hq).1
  done := by
    intro X hP hw hK hc i pins s σ H E I hf st hg
    subst hP hw hK
    obtain ⟨hz, hTI, hTO, h1, h2⟩ := st
    obtain ⟨xs, ys, hqx, hqy, hi⟩ := hg
    obtain ⟨its, rv, p, _⟩ := inv_seqB I hqx
    obtain ⟨its2, rv2, p2, _⟩ := inv_seqB I hqy
    have S : ZipSep2 z TI TO i1 i2 [i1, a] [i2, c] := by
      obtain ⟨e1, e2, e3, e4, e5, l1, l2⟩ := D
      subst e1 e2 e3 e4 e5
      exact zip_sep2 (fp1 := [a]) (fp2 := [c]) (fun q hq => by rw [List.mem_singleton.mp hq]; exact l1) (fun q hq => by rw [List.mem_singleton.mp hq]; exact l2)
    have n1 : a ≠ i1 := by rw [D.h1]; exact Nat.ne_of_lt D.ha
    have n2 : c ≠ i2 := by rw [D.h2]; exact Nat.ne_of_lt (Nat.lt_succ_of_lt D.hc)
    have W := GoesN.zip2 (prog := X.prog) (w := X.w) (A := X.A) (elts := elts) (x1 := kk) (pos := tpos) S (drawsB (prog := X.prog) (w := X.w) (A := X.A.in1) (I.ok.hd hc) i1 a n1 its.toArray b) (drawsB (prog := X.prog) (w := X.w) (A := X.A.in1) (I.ok.hd hc) i2 c n2 its2.toArray d)
    have e : i = min its.toArray.size its2.toArray.size := by rw [List.size_toArray, List.size_toArray, ← rv.length, ← rv2.length]; exact hi
    subst e
    refine wpAny_mono (W.stops s (fun s1 => Inv X pins σ H s1) E ⟨hz, hTI, hTO, ⟨h1, p⟩, h2, p2⟩ fun h' tk hk htk => ?_) (fun r s1 h => h) fun _ _ h => h
    refine I.turnedL (ch := [z, TI, TO, i1, i2]) (fun q o hq e => hk q o (fun m => hq ?_) e) hf
    rcases (show q = z ∨ q = TO ∨ q = i1 ∨ q = i2 by simpa using m) with e | e | e | e <;> simp [e]
  self := fun A i s Q E st h => wpAny_pyIter_zip st.1 h
def iZipB (K : PySem.W.Frag) (ta : TA) : TI := fun σ H R => ta σ H fun vs H1 => ∃ a c xs ys b d, vs = [.ref a, .ref c] ∧ SqB K H1 a xs b ∧ SqB K H1 c ys d ∧ R (ItZ K a c b d) H1
theorem pi_zipB {X : Cx} {e e2 : Expr} {ta : TA} {p pos tpos : Pos} {elts : List Expr} {kk : Nat} (hg : Gl X "zip") (hm : X.mg "zip" = none) (ha : PA X [e, e2] ta)
    (hs : starEach [e, e2] X.env = (false, eval e X.env) :: starEach [e2] X.env := by rfl) (hpl : (backTo pos (starEach [e2] X.env)).any (·.1) = false := by rfl) :
    PI X (.Tuple elts kk tpos) (.Call (.Name "zip" p) [e, e2] [] pos) (iZipB X.K ta) := by
  refine ⟨fun pins s σ H R I h => ?_⟩
  refine Call_ (ld_blt I hg hm PyProof.Rows.boot_zip (PyProof.Rows.callWith_type1 (thn (ha.run pos pins s σ H _ I h) fun us s1 ⟨vs, H1, I1, r1, q1⟩ => ?_) hs hpl))
  obtain ⟨a, c, xs, ys, b, d, ex, hqx, hqy, q⟩ := q1
  subst ex
  cases r1 with
  | cons r rr =>
    cases rr with
    | cons r' rr =>
      cases rr
      cases r
      cases r'
      obtain ⟨its, rv, p1, _⟩ := inv_seqB I1 hqx
      obtain ⟨its2, rv2, p2, _⟩ := inv_seqB I1 hqy
      refine zip_begins2 (beginsB a its.toArray b) (beginsB c its2.toArray d) p1 p2 fun h' hz hTI hTO h1 h2 hsz hk => wpAny_pyIter_zip hz ?_
      have I2 : Inv X pins σ H1 { s1 with heap := h' } := I1.kept (t' := s1.toks) hk
      refine ⟨s1.heap.objs.size + 4, [s1.heap.objs.size + 4, s1.heap.objs.size + 2, s1.heap.objs.size + 3, s1.heap.objs.size, s1.heap.objs.size + 1], _, _, H1, rfl, I2, turn_zipB b d ⟨rfl, rfl, rfl, rfl, rfl, isB_lt p1, isB_lt p2⟩, ⟨hz, hTI, ⟨_, _, hTO⟩, itB_start h1, itB_start h2⟩, fun q hq => ?_, q⟩
      have hle : s1.heap.objs.size ≤ q := by
        rcases (show q = s1.heap.objs.size + 4 ∨ q = s1.heap.objs.size + 2 ∨ q = s1.heap.objs.size + 3 ∨ q = s1.heap.objs.size ∨ q = s1.heap.objs.size + 1 by simpa using hq) with e | e | e | e | e
        · rw [e]; exact Nat.le_add_right _ _
        · rw [e]; exact Nat.le_add_right _ _
        · rw [e]; exact Nat.le_add_right _ _
        · rw [e]; exact Nat.le_refl _
        · rw [e]; exact Nat.le_add_right _ _
      exact I1.fpOk hle (I1.hok.fresh hle)
/-! ### a list or a tuple -/
def iSeqB (K : PySem.W.Frag) (tl : TE) : TI := fun σ H R => tl σ H fun x H1 => ∃ a, x = .ref a ∧ ((∃ xs, SqL K H1 a xs) ∧ R (Itl K a) H1 ∨ (∃ xs, SqT K H1 a xs) ∧ R (Itt K a) H1)
theorem pi_seqB {X : Cx} {tg l : Expr} {tl : TE} (hl : PE X l tl) : PI X tg l (iSeqB X.K tl) := by
  refine ⟨fun pins s σ H R I h => ?_⟩
  refine thn (hl.run pins s σ H _ I h) fun v s1 ⟨x, H1, I1, r1, q1⟩ => ?_
  obtain ⟨a, e, q⟩ := q1
  subst e
  cases r1
  have fp : ∀ b ∈ [s1.heap.objs.size], FpOk X pins H1 b := fun b hb => by
    rw [List.mem_singleton.mp hb]
    exact I1.fpOk (Nat.le_refl _) (I1.hok.fresh (Nat.le_refl _))
  rcases q with ⟨⟨xs, hq⟩, q⟩ | ⟨⟨xs, hq⟩, q⟩
  · obtain ⟨its, rv, p, hz⟩ := I1.list hq
    exact wpAny_pyIter_list p.isList ⟨s1.heap.objs.size, [s1.heap.objs.size], _, _, H1, rfl, I1.kept (t' := s1.toks) fun b o e => Heap.get?_push_of_some _ e, turn_list a _, ⟨_, Heap.get?_push_size _ rfl, rfl, rfl⟩, fp, q⟩
  · obtain ⟨its, rv, p, hz⟩ := I1.tuple hq
    exact wpAny_pyIter_tuple (show s1.heap.IsTuple a its.toArray from p) ⟨s1.heap.objs.size, [s1.heap.objs.size], _, _, H1, rfl, I1.kept (t' := s1.toks) fun b o e => Heap.get?_push_of_some _ e, turn_tuple a _, ⟨_, Heap.get?_push_size _ rfl, rfl, rfl⟩, fp, q⟩
end DL

namespace DL
open PySem PySem.Spec PyProof.Rows L2
/-- a walk over data -/
structure Strm (l : Bool) (K : PySem.W.Frag) (F : Hp) (J : It) (ds : List PyData) : Prop where
  stop : ∀ {F' H : Hp}, Same F F' → Same F' H → J.stop ds.length H
  go : ∀ {i : Nat} {F' H : Hp}, i < ds.length → Same F F' → Same F' H → J.go i H
  yld : ∀ {i : Nat} {d : PyData} {F' H : Hp} {x : V} {H' : Hp}, ds[i]? = some d → Same F F' → Same F' H → J.yld i H x H' → ∃ F'', (∀ {ρ : En} {σ : Sg} {fps : Nat → Addr → Prop}, Sta K F' H ρ σ fps → GotS K ρ σ F' H fps ρ σ F'' H' fps) ∧ DqB l K F'' x d
theorem strm_d {l : Bool} {K : PySem.W.Frag} {F H : Hp} {x : V} {d : PyData} (h : Dq K F x d) : ∃ F'', (∀ {ρ : En} {σ : Sg} {fps : Nat → Addr → Prop}, Sta K F H ρ σ fps → GotS K ρ σ F H fps ρ σ F'' H fps) ∧ DqB l K F'' x d := ⟨F, fun st => .refl st, .of h⟩
theorem strm_new {K : PySem.W.Frag} {F H : Hp} {p : Addr} {vs : List V} {ds : List PyData} (s : Same F H) (h : H p = none) (q : DqAll K F vs ds) : ∃ F'', (∀ {ρ : En} {σ : Sg} {fps : Nat → Addr → Prop}, Sta K F H ρ σ fps → GotS K ρ σ F H fps ρ σ F'' (upd H p (.tup vs)) fps) ∧ DqB true K F'' (.ref p) (.tuple ds) := by
  have e : F p = none := by
    cases e : F p with
    | none => rfl
    | some u => rw [s _ _ e] at h; cases h
  have gr : Same F (upd F p (.tup vs)) := fun b u eb => by rw [upd_ne (ne_of_none eb e)]; exact eb
  exact ⟨upd F p (.tup vs), fun st => st.alloc h, .inr ⟨p, vs, ds, rfl, rfl, .inl (.inl upd_same), q.mono gr⟩⟩
abbrev WI := KX → En → (List PyData → En → Prop) → Prop
def riB (l : Bool) (K : PySem.W.Frag) (mg : Str → Option Value) (E : EX) (w : WI) : TI := fun σ H R => ∃ ρ F fps Z Q, Sta K F H ρ σ fps ∧ w Z ρ Q ∧ ZC K mg E ρ σ F H fps Z ∧
  ∀ J ds ρ' F' H' fps', GotS K ρ σ F H fps ρ' σ F' H' fps' → Strm l K F' J ds → Q ds ρ' → R J H'
theorem pi_imp {X : Cx} {tg e : Expr} {t t' : TI} (h : PI X tg e t) (i : ∀ σ H Q, t' σ H Q → t σ H Q) : PI X tg e t' := ⟨fun pins s σ H Q I q => h.run pins s σ H Q I (i σ H Q q)⟩
/-! ### what is walked -/
def seqD (d : PyData) (k : List PyData → Prop) : Prop := match d with
  | .list ds => k ds
  | .tuple ds => k ds
  | _ => False
theorem seqD_of {d : PyData} {k : List PyData → Prop} (h : seqD d k) : ∃ ds, (d = .list ds ∨ d = .tuple ds) ∧ k ds := by
  cases d <;> first | exact h.elim | exact ⟨_, .inl rfl, h⟩ | exact ⟨_, .inr rfl, h⟩
def iSq (w : WE) : WI := fun Z ρ Q => w Z ρ fun n ρ1 => asD n fun d => seqD d fun ds => Q ds ρ1
section
variable {K : PySem.W.Frag} {F F' H : Hp} {a : Addr} {xs ys : List V} {ds es : List PyData}
theorem strm_l {l : Bool} (h : F a = some (.lst xs)) (q : DqAll K F xs ds) : Strm l K F (Itl K a) ds where
  stop := fun s1 s2 => ⟨xs, SqL.of (s2 _ _ (s1 _ _ h)), Nat.le_of_eq q.length⟩
  go := fun {i F' H} hi s1 s2 => ⟨xs, xs[i]'(by rw [q.length]; exact hi), SqL.of (s2 _ _ (s1 _ _ h)), List.getElem?_eq_getElem _⟩
  yld := fun {i d F' H x H'} hd s1 s2 y => by
    obtain ⟨rfl, y⟩ := y
    obtain ⟨v, e, r⟩ := q.getD hd
    have e2 := y xs (SqL.of (s2 _ _ (s1 _ _ h)))
    rw [e] at e2
    cases e2
    exact strm_d (r.mono s1)
theorem strm_t {l : Bool} (h : SqT K F a xs) (q : DqAll K F xs ds) : Strm l K F (Itt K a) ds where
  stop := fun s1 s2 => ⟨xs, Same.tup s2 (Same.tup s1 h), Nat.le_of_eq q.length⟩
  go := fun {i F' H} hi s1 s2 => ⟨xs, xs[i]'(by rw [q.length]; exact hi), Same.tup s2 (Same.tup s1 h), List.getElem?_eq_getElem _⟩
  yld := fun {i d F' H x H'} hd s1 s2 y => by
    obtain ⟨rfl, y⟩ := y
    obtain ⟨v, e, r⟩ := q.getD hd
    have e2 := y xs (Same.tup s2 (Same.tup s1 h))
    rw [e] at e2
    cases e2
    exact strm_d (r.mono s1)
theorem strm_r {l : Bool} {lo : Int} {n : Nat} : Strm l K F (Itr lo n) ((List.range n).map fun i : Nat => .int (lo + (i : Int))) where
  stop := fun _ _ => by show n ≤ _; simp
  go := fun hi _ _ => by show _ < n; simpa using hi
  yld := fun {i d F' H x H'} hd s1 s2 y => by
    obtain ⟨rfl, rfl⟩ := y
    rw [List.getElem?_map] at hd
    cases e : (List.range n)[i]? with
    | none => rw [e] at hd; cases hd
    | some j =>
      rw [e] at hd
      have ej : j = i := by
        have := List.getElem?_eq_some_iff.mp e
        obtain ⟨h1, h2⟩ := this
        rw [← h2, List.getElem_range]
      subst ej
      cases hd
      exact strm_d (.int _)
theorem strm_c {l : Bool} {lo c : Int} {n : Nat} : Strm l K F (Itc lo c n) ((List.range n).map fun i : Nat => .int (lo + (i : Int) * c)) where
  stop := fun _ _ => by show n ≤ _; simp
  go := fun hi _ _ => by show _ < n; simpa using hi
  yld := fun {i d F' H x H'} hd s1 s2 y => by
    obtain ⟨rfl, rfl⟩ := y
    rw [List.getElem?_map] at hd
    cases e : (List.range n)[i]? with
    | none => rw [e] at hd; cases hd
    | some j =>
      rw [e] at hd
      have ej : j = i := by
        have := List.getElem?_eq_some_iff.mp e
        obtain ⟨h1, h2⟩ := this
        rw [← h2, List.getElem_range]
      subst ej
      cases hd
      exact strm_d (.int _)
/-- a list or a tuple that is frozen -/
theorem sqB_of {v : V} {d : PyData} (q : Dq K F v d) (hd : d = .list ds ∨ d = .tuple ds) : ∃ a xs b, v = .ref a ∧ SqB K F a xs b ∧ DqAll K F xs ds := by
  rcases hd with rfl | rfl
  · cases q with
    | lst h t => exact ⟨_, _, false, rfl, SqL.of h, t⟩
  · cases q with
    | tup h t => exact ⟨_, _, true, rfl, h.sq, t⟩
def enumD (ds : List PyData) : List PyData := ds.zipIdx.map fun p => .tuple [.int (p.2 : Int), p.1]
def zipD (ds es : List PyData) : List PyData := List.zipWith (fun x y => .tuple [x, y]) ds es
theorem strm_e {b : Bool} (h : SqB K F a xs b) (q : DqAll K F xs ds) : Strm true K F (ItE K a b) (enumD ds) where
  stop := fun s1 s2 => ⟨xs, Same.sqB s2 (Same.sqB s1 h), by rw [q.length]; simp [enumD]⟩
  go := fun {i F' H} hi s1 s2 => ⟨xs, xs[i]'(by rw [q.length]; simpa [enumD] using hi), Same.sqB s2 (Same.sqB s1 h), List.getElem?_eq_getElem _⟩
  yld := fun {i d F' H x H'} hd s1 s2 y => by
    obtain ⟨T, y0, rfl, hT, rfl, y⟩ := y
    have e2 := y xs (Same.sqB s2 (Same.sqB s1 h))
    obtain ⟨e, he, r⟩ := q.get e2
    have ed : d = .tuple [.int (i : Int), e] := by
      simp only [enumD, List.getElem?_map, List.getElem?_zipIdx, he, Option.map_some, Option.some.injEq, Nat.zero_add] at hd
      exact hd.symm
    subst ed
    exact strm_new s2 hT (.cons (.int _) (.cons (r.mono s1) .nil))
theorem strm_z {c : Addr} {b d : Bool} (h : SqB K F a xs b) (h2 : SqB K F c ys d) (q : DqAll K F xs ds) (q2 : DqAll K F ys es) : Strm true K F (ItZ K a c b d) (zipD ds es) where
  stop := fun s1 s2 => ⟨xs, ys, Same.sqB s2 (Same.sqB s1 h), Same.sqB s2 (Same.sqB s1 h2), by rw [q.length, q2.length]; simp [zipD]⟩
  go := fun {i F' H} hi s1 s2 => by
    have hi' : i < ds.length ∧ i < es.length := by simp only [zipD, List.length_zipWith] at hi; omega
    exact ⟨xs, ys, xs[i]'(by rw [q.length]; exact hi'.1), ys[i]'(by rw [q2.length]; exact hi'.2), Same.sqB s2 (Same.sqB s1 h), Same.sqB s2 (Same.sqB s1 h2), List.getElem?_eq_getElem _, List.getElem?_eq_getElem _⟩
  yld := fun {i d F' H x H'} hd s1 s2 y => by
    obtain ⟨T, x0, y0, rfl, hT, rfl, y1, y2⟩ := y
    have e1 := y1 xs (Same.sqB s2 (Same.sqB s1 h))
    have e2 := y2 ys (Same.sqB s2 (Same.sqB s1 h2))
    obtain ⟨e, he, r⟩ := q.get e1
    obtain ⟨e', he', r'⟩ := q2.get e2
    have ed : d = .tuple [e, e'] := by
      rw [zipD, List.getElem?_zipWith, he, he'] at hd
      exact (Option.some.inj hd).symm
    subst ed
    exact strm_new s2 hT (.cons (r.mono s1) (.cons (r'.mono s1) .nil))
end
def iRg1 (ws : WA) : WI := fun Z ρ Q => ws Z ρ fun as ρ1 => match as with
  | [a] => lkD ρ1 a fun d => match d with
    | .int j => (-(2 ^ 62) ≤ j ∧ j < 2 ^ 62) ∧ Q ((List.range j.toNat).map fun i : Nat => .int (i : Int)) ρ1
    | _ => False
  | _ => False
def rgL (i j : Int) : List PyData := (List.range (j - i).toNat).map fun k : Nat => .int (i + (k : Int))
def iRg2 (ws : WA) : WI := fun Z ρ Q => ws Z ρ fun as ρ1 => match as with
  | [a, b] => lkD ρ1 a fun x => lkD ρ1 b fun y => bI x y fun i j => (-(2 ^ 62) ≤ i ∧ i < 2 ^ 62 ∧ -(2 ^ 62) ≤ j ∧ j < 2 ^ 62) ∧ Q (rgL i j) ρ1
  | _ => False
/-- range(i, j, -1) -/
def dnL (i j : Int) : List PyData := (List.range (i - j).toNat).map fun k : Nat => .int (i + (k : Int) * (-1))
def iRg3 (ws : WA) : WI := fun Z ρ Q => ws Z ρ fun as ρ1 => match as with
  | [a, b, c] => lkD ρ1 a fun x => lkD ρ1 b fun y => lkD ρ1 c fun z => z = .int (-1) ∧ bI x y fun i j => (-(2 ^ 62) ≤ i ∧ i < 2 ^ 62 ∧ -(2 ^ 62) ≤ j ∧ j < 2 ^ 62) ∧ Q (dnL i j) ρ1
  | _ => False
def iEn (w : WE) : WI := fun Z ρ Q => w Z ρ fun n ρ1 => asD n fun d => seqD d fun ds => Q (enumD ds) ρ1
def iZp (wa wb : WE) : WI := fun Z ρ Q => wa Z ρ fun n ρ1 => asD n fun x => wb Z ρ1 fun m ρ2 => asD m fun y => seqD x fun ds => seqD y fun es => Q (zipD ds es) ρ2
section
variable {X : Cx} {E : EX} {tg e e2 : Expr} {w wa wb : WE} {ws : WA} {p pos tpos : Pos} {elts : List Expr} {kk : Nat}
theorem i_seq {l : Bool} (h : PE X e (rd X.K X.mg E w)) : PI X tg e (riB l X.K X.mg E (iSq w)) := pi_imp (pi_seqB h) fun σ H Q ⟨ρ, F, fps, Z, Qd, st, hw, zc, k⟩ =>
  part st zc hw fun d v ρ1 F1 H1 fps1 g q h1 => by
    obtain ⟨ds, hd, hq⟩ := seqD_of h1
    rcases hd with rfl | rfl
    · cases q with
      | lst h t => exact ⟨_, rfl, .inl ⟨⟨_, SqL.of (g.st.wf.sub _ _ h)⟩, k _ _ _ _ _ _ g (strm_l h t) hq⟩⟩
    · cases q with
      | tup h t => exact ⟨_, rfl, .inr ⟨⟨_, (h.mono g.st.wf.sub).sq⟩, k _ _ _ _ _ _ g (strm_t h.sq t) hq⟩⟩
theorem i_rg1 {l : Bool} {a : Expr} (hg : Gl X "range") (hm : X.mg "range" = none) (ha : PA X [a] (ra X.K X.mg E ws)) (hs : starEach [a] X.env = [(false, eval a X.env)] := by rfl) : PI X tg (.Call (.Name "range" p) [a] [] pos) (riB l X.K X.mg E (iRg1 ws)) :=
  pi_imp (pi_range1 hg hm ha hs) fun σ H Q ⟨ρ, F, fps, Z, Qd, st, hw, zc, k⟩ => ⟨ρ, F, fps, Z, _, st, hw, zc, fun as vs ρ1 F1 H1 fps1 g r q => by
    cases r with
    | nil => exact q.elim
    | cons r rr =>
      cases rr with
      | cons => exact q.elim
      | nil =>
        obtain ⟨d, q, l⟩ := lk_rel g.st.rs r q
        cases d with
        | int j =>
          obtain rfl := l.int
          have z := k (Itr 0 j.toNat) _ _ _ _ _ g strm_r (by simpa using q.2)
          exact ⟨j, rfl, q.1.1, q.1.2, z⟩
        | _ => exact q.elim⟩
theorem i_rg2 {l : Bool} {a b : Expr} (hg : Gl X "range") (hm : X.mg "range" = none) (ha : PA X [a, b] (ra X.K X.mg E ws)) (hs : starEach [a, b] X.env = [(false, eval a X.env), (false, eval b X.env)] := by rfl) (hs2 : starEach [b] X.env = [(false, eval b X.env)] := by rfl) :
    PI X tg (.Call (.Name "range" p) [a, b] [] pos) (riB l X.K X.mg E (iRg2 ws)) :=
  pi_imp (pi_range2 hg hm ha hs hs2) fun σ H Q ⟨ρ, F, fps, Z, Qd, st, hw, zc, k⟩ => ⟨ρ, F, fps, Z, _, st, hw, zc, fun as vs ρ1 F1 H1 fps1 g r q => by
    cases r with
    | nil => exact q.elim
    | cons r rr =>
      cases rr with
      | nil => exact q.elim
      | cons r' rr =>
        cases rr with
        | cons => exact q.elim
        | nil =>
          obtain ⟨d, q, l⟩ := lk_rel g.st.rs r q
          obtain ⟨d', q, l'⟩ := lk_rel g.st.rs r' q
          obtain ⟨i, j, rfl, rfl, hb, q⟩ := bI_of q
          obtain rfl := l.int
          obtain rfl := l'.int
          exact ⟨i, j, rfl, hb, k _ _ _ _ _ _ g strm_r q⟩⟩
theorem i_rg3 {l : Bool} {a b c : Expr} (hg : Gl X "range") (hm : X.mg "range" = none) (ha : PA X [a, b, c] (ra X.K X.mg E ws))
    (hs : starEach [a, b, c] X.env = (false, eval a X.env) :: starEach [b, c] X.env := by rfl) (hpl : (backTo pos (starEach [b, c] X.env)).any (·.1) = false := by rfl) :
    PI X tg (.Call (.Name "range" p) [a, b, c] [] pos) (riB l X.K X.mg E (iRg3 ws)) :=
  pi_imp (pi_range3 hg hm ha hs hpl) fun σ H Q ⟨ρ, F, fps, Z, Qd, st, hw, zc, k⟩ => ⟨ρ, F, fps, Z, _, st, hw, zc, fun as vs ρ1 F1 H1 fps1 g r q => by
    cases r with
    | nil => exact q.elim
    | cons r rr =>
      cases rr with
      | nil => exact q.elim
      | cons r' rr =>
        cases rr with
        | nil => exact q.elim
        | cons r'' rr =>
          cases rr with
          | cons => exact q.elim
          | nil =>
            obtain ⟨d, q, l⟩ := lk_rel g.st.rs r q
            obtain ⟨d', q, l'⟩ := lk_rel g.st.rs r' q
            obtain ⟨d'', q, l''⟩ := lk_rel g.st.rs r'' q
            obtain ⟨rfl, q⟩ := q
            obtain ⟨i, j, rfl, rfl, hb, q⟩ := bI_of q
            obtain rfl := l.int
            obtain rfl := l'.int
            obtain rfl := l''.int
            exact ⟨i, j, -1, (i - j).toNat, rfl, RgC.neg hb.1 hb.2.1 hb.2.2.1 hb.2.2.2, k _ _ _ _ _ _ g strm_c q⟩⟩
theorem i_en (hg : Gl X "enumerate") (hm : X.mg "enumerate" = none) (h : PE X e (rd X.K X.mg E w)) (hs : starEach [e] X.env = (false, eval e X.env) :: starEach [] X.env := by rfl) (hs1 : starEach [e] X.env = [(false, eval e X.env)] := by rfl) :
    PI X (.Tuple elts kk tpos) (.Call (.Name "enumerate" p) [e] [] pos) (riB true X.K X.mg E (iEn w)) :=
  pi_imp (pi_enumB hg hm (a_cons (x_d h) a_nil hs) hs1) fun σ H Q ⟨ρ, F, fps, Z, Qd, st, hw, zc, k⟩ => ⟨ρ, F, fps, Z, fun as ρ1 => ∃ d, as = [.d d] ∧ seqD d fun ds => Qd (enumD ds) ρ1, st, (show w Z ρ _ from by
    have : w Z ρ (fun n ρ1 => asD n fun d => seqD d fun ds => Qd (enumD ds) ρ1) := hw
    refine (cast ?_ this)
    refine congrArg (w Z ρ) (funext fun n => funext fun ρ1 => congrArg (asD n) (funext fun d => ?_))
    exact propext ⟨fun h => ⟨d, rfl, h⟩, fun ⟨d', e, h⟩ => by cases e; exact h⟩), zc, fun as vs ρ1 F1 H1 fps1 g r ⟨d, e, q⟩ => by
    subst e
    obtain ⟨ds, hd, hq⟩ := seqD_of q
    cases r with
    | cons r rr =>
      cases rr
      cases r with
      | d r =>
        obtain ⟨a, xs, b, rfl, hs, hq2⟩ := sqB_of r hd
        exact ⟨a, xs, b, rfl, Same.sqB g.st.wf.sub hs, k _ _ _ _ _ _ g (strm_e hs hq2) hq⟩⟩
end
end DL

namespace DL
open PySem PySem.Spec PyProof.Rows L2
def iZip (ws : WA) : WI := fun Z ρ Q => ws Z ρ fun as ρ1 => match as with
  | [.d x, .d y] => seqD x fun ds => seqD y fun es => Q (zipD ds es) ρ1
  | _ => False
def iRv (ws : WE) : WI := fun Z ρ Q => ws Z ρ fun n ρ1 => asD n fun d => seqD d fun ds => Q ds.reverse ρ1
section
variable {K : PySem.W.Frag} {F F' H : Hp} {a : Addr} {xs ys : List V} {ds es : List PyData}
theorem rev_at {xs : List V} {ds : List PyData} {i : Nat} {d : PyData} {x : V} (q : DqAll K F xs ds) (hd : ds.reverse[i]? = some d) (hx : xs[xs.length - 1 - i]? = some x) : Dq K F x d := by
  have hl := q.length
  obtain ⟨hi, _⟩ := List.getElem?_eq_some_iff.mp hd
  rw [List.length_reverse] at hi
  rw [List.getElem?_reverse hi, ← hl] at hd
  obtain ⟨v, e, r⟩ := q.getD hd
  rw [hx] at e
  cases e
  exact r
theorem strm_rl {l : Bool} (h : F a = some (.lst xs)) (q : DqAll K F xs ds) : Strm l K F (Itv K a xs.length) ds.reverse where
  stop := fun s1 s2 => by show xs.length ≤ _; rw [List.length_reverse, q.length]; exact Nat.le_refl _
  go := fun {i F' H} hi s1 s2 => by
    rw [List.length_reverse, ← q.length] at hi
    exact ⟨hi, xs, xs[xs.length - 1 - i]'(by omega), SqL.of (s2 _ _ (s1 _ _ h)), List.getElem?_eq_getElem _⟩
  yld := fun {i d F' H x H'} hd s1 s2 y => by
    obtain ⟨rfl, y⟩ := y
    exact strm_d ((rev_at q hd (y xs (SqL.of (s2 _ _ (s1 _ _ h))))).mono s1)
theorem strm_rt {l : Bool} (h : SqT K F a xs) (q : DqAll K F xs ds) : Strm l K F (RT.ItvT K a xs.length) ds.reverse where
  stop := fun s1 s2 => by show xs.length ≤ _; rw [List.length_reverse, q.length]; exact Nat.le_refl _
  go := fun {i F' H} hi s1 s2 => by
    rw [List.length_reverse, ← q.length] at hi
    exact ⟨hi, xs, xs[xs.length - 1 - i]'(by omega), Same.tup s2 (Same.tup s1 h), List.getElem?_eq_getElem _⟩
  yld := fun {i d F' H x H'} hd s1 s2 y => by
    obtain ⟨rfl, y⟩ := y
    exact strm_d ((rev_at q hd (y xs (Same.tup s2 (Same.tup s1 h)))).mono s1)
end
section
variable {X : Cx} {E : EX} {tg e e2 : Expr} {w wa wb : WE} {ws : WA} {p pos tpos : Pos} {elts : List Expr} {kk : Nat}
theorem i_zip (hg : Gl X "zip") (hm : X.mg "zip" = none) (ha : PA X [e, e2] (ra X.K X.mg E ws))
    (hs : starEach [e, e2] X.env = (false, eval e X.env) :: starEach [e2] X.env := by rfl) (hpl : (backTo pos (starEach [e2] X.env)).any (·.1) = false := by rfl) :
    PI X (.Tuple elts kk tpos) (.Call (.Name "zip" p) [e, e2] [] pos) (riB true X.K X.mg E (iZip ws)) :=
  pi_imp (pi_zipB hg hm ha hs hpl) fun σ H Q ⟨ρ, F, fps, Z, Qd, st, hw, zc, k⟩ => ⟨ρ, F, fps, Z, _, st, hw, zc, fun as vs ρ1 F1 H1 fps1 g r q => by
    cases r with
    | nil => exact q.elim
    | cons r rr =>
      cases rr with
      | nil => cases r <;> exact q.elim
      | cons r' rr =>
        cases rr with
        | cons => cases r <;> cases r' <;> exact q.elim
        | nil =>
          cases r with
          | o => exact q.elim
          | d r =>
            cases r' with
            | o => exact q.elim
            | d r' =>
              obtain ⟨ds, hd, hq⟩ := seqD_of q
              obtain ⟨es, he, hq⟩ := seqD_of hq
              obtain ⟨a, xs, b, rfl, hs, hq2⟩ := sqB_of r hd
              obtain ⟨c, ys, d, rfl, hs2, hq3⟩ := sqB_of r' he
              exact ⟨a, c, xs, ys, b, d, rfl, Same.sqB g.st.wf.sub hs, Same.sqB g.st.wf.sub hs2, k _ _ _ _ _ _ g (strm_z hs hs2 hq2 hq3) hq⟩⟩
theorem i_rev {l : Bool} (hg : Gl X "reversed") (hm : X.mg "reversed" = none) (he : PE X e (rd X.K X.mg E w)) (hs : starEach [e] X.env = (false, eval e X.env) :: starEach [] X.env := by rfl) : PI X tg (.Call (.Name "reversed" p) [e] [] pos) (riB l X.K X.mg E (iRv w)) :=
  pi_imp (RT.pi_revA hg hm he hs) fun σ H Q ⟨ρ, F, fps, Z, Qd, st, hw, zc, k⟩ => part st zc hw fun d v ρ1 F1 H1 fps1 g q h1 => by
    obtain ⟨ds, hd, hq⟩ := seqD_of h1
    rcases hd with rfl | rfl
    · cases q with
      | lst h t => exact ⟨_, _, rfl, .inl ⟨SqL.of (g.st.wf.sub _ _ h), k _ _ _ _ _ _ g (strm_rl h t) hq⟩⟩
    · cases q with
      | tup h t => exact ⟨_, _, rfl, .inr ⟨(h.mono g.st.wf.sub).sq, k _ _ _ _ _ _ g (strm_rt h.sq t) hq⟩⟩
end
/-! ### for -/
def wLoop (Z : KX) (D : DE) (g : WG) (b : WS) : List PyData → En → Prop
  | [], ρ => D.nx ρ
  | d :: ds, ρ => g d ρ fun ρ1 => b Z { D with nx := wLoop Z D g b ds, ct := wLoop Z D g b ds, bk := D.nx } ρ1
def sFor (wi : WI) (g : WG) (b : WS) : WS := fun Z D ρ => wi Z ρ fun ds ρ1 => wLoop Z D g b ds ρ1
section
variable {X : Cx} {E : EX} {tg iter : Expr} {wi : WI} {g : WG} {b : WS} {pos : Pos} {is : List Nat} {body : List Stmt}
theorem s_for {l : Bool} (hp : PassesOwn (model X.prog X.w) X.A X.env X.xe) (hc : X.calm = true) (hi : PI X tg iter (riB l X.K X.mg E wi)) (hg : PG X tg (rgB l X.K is g)) (hb : PSs X body (rs X.K X.mg E b))
    (hs : ∀ x, foldedSetIterable iter X.env x = pure x := by intro _; rfl) : PS X (.For tg iter body [] pos) (rs X.K X.mg E (sFor wi g b)) := ps_imp (ps_for hp hc hi hg hb hs) fun D σ H h => by
  obtain ⟨ρ, F, fps, Z, DD, st, sc, hw⟩ := rs_open h
  refine ⟨ρ, F, fps, Z, _, st, hw, sc.z, fun J ds ρ1 F1 H1 fps1 g1 sm q => ?_⟩
  refine ⟨fun i m σ' H' => m = ds.length - i ∧ i ≤ ds.length ∧ ∃ ρ' F' fps', GotS X.K ρ1 σ F1 H1 fps1 ρ' σ' F' H' fps' ∧ wLoop Z DD g b (ds.drop i) ρ', ⟨ds.length, rfl, Nat.zero_le _, ρ1, F1, fps1, .refl g1.st, q⟩, ?_⟩
  rintro i m σ' H' ⟨rfl, hi, ρ', F', fps', g', q'⟩
  have sc' := (sc.step g1).step g'
  by_cases hlt : i < ds.length
  · have ed : ds.drop i = ds[i] :: ds.drop (i + 1) := List.drop_eq_getElem_cons hlt
    rw [ed] at q'
    refine .inr ⟨sm.go hlt g'.tr.grow g'.st.wf.sub, fun σ2 H2 => ∃ ρ2 F2 fps2, GotS X.K ρ1 σ F1 H1 fps1 ρ2 σ2 F2 H2 fps2 ∧ wLoop Z DD g b (ds.drop (i + 1)) ρ2, fun σ2 H2 ⟨ρ2, F2, fps2, g2, q2⟩ => ⟨ds.length - (i + 1), by omega, rfl, hlt, ρ2, F2, fps2, g2, q2⟩, fun x H2 y => ?_⟩
    obtain ⟨F2, gr, dq⟩ := sm.yld (List.getElem?_eq_getElem hlt) g'.tr.grow g'.st.wf.sub y
    have gt := gr g'.st
    refine ⟨ρ', F2, fps', _, _, gt.st, dq, q', fun ρ3 σ3 F3 H3 fps3 g3 _ q3 => ?_⟩
    have sc3 := (sc'.step gt).step g3
    refine rs_of (DD := { DD with nx := wLoop Z DD g b (ds.drop (i + 1)), ct := wLoop Z DD g b (ds.drop (i + 1)), bk := DD.nx }) g3.st ⟨sc3.z, fun ρ4 σ4 F4 H4 fps4 g4 => ⟨fun z => ⟨ρ4, F4, fps4, ((g'.trans gt).trans g3).trans g4, z⟩, fun z => sc3.nx g4 z, fun z => ⟨ρ4, F4, fps4, ((g'.trans gt).trans g3).trans g4, z⟩⟩, sc3.r⟩ q3
  · have e : i = ds.length := by omega
    subst e
    rw [List.drop_length] at q'
    exact .inl ⟨sm.stop g'.tr.grow g'.st.wf.sub, sc'.nx (.refl g'.st) q'⟩
end
/-! ### while -/
def sWhile (c : WT) (b : WS) : WS := fun Z D ρ => ∃ W : Nat → En → Prop, (∃ m, W m ρ) ∧ ∀ m ρ, W m ρ → c Z ρ fun k ρ1 => if k = true then b Z { D with nx := fun ρ2 => ∃ m', m' < m ∧ W m' ρ2, ct := fun ρ2 => ∃ m', m' < m ∧ W m' ρ2, bk := D.nx } ρ1 else D.nx ρ1
section
variable {X : Cx} {E : EX} {c : Expr} {wc : WT} {b : WS} {pos : Pos} {body : List Stmt}
theorem s_while (hp : PassesOwn (model X.prog X.w) X.A X.env X.xe) (hc : PT X c (rt X.K X.mg E wc)) (hb : PSs X body (rs X.K X.mg E b)) : PS X (.While c body [] pos) (rs X.K X.mg E (sWhile wc b)) := ps_imp (ps_while hp hc hb) fun D σ H h => by
  obtain ⟨ρ, F, fps, Z, DD, st, sc, hw⟩ := rs_open h
  obtain ⟨W, ⟨m, w0⟩, step⟩ := hw
  refine ⟨fun m σ' H' => ∃ ρ' F' fps', GotS X.K ρ σ F H fps ρ' σ' F' H' fps' ∧ W m ρ', ⟨m, ρ, F, fps, .refl st, w0⟩, ?_⟩
  rintro m σ' H' ⟨ρ', F', fps', g', w'⟩
  have sc' := sc.step g'
  refine partT g'.st sc'.z (step m ρ' w') fun k ρ1 F1 H1 fps1 g1 q1 => ?_
  cases k with
  | false => exact iteF (sc'.nx g1 q1)
  | true =>
    refine iteT ⟨fun σ2 H2 => ∃ m', m' < m ∧ ∃ ρ2 F2 fps2, GotS X.K ρ σ F H fps ρ2 σ2 F2 H2 fps2 ∧ W m' ρ2, fun σ2 H2 ⟨m', hm, z⟩ => ⟨m', hm, z⟩, ?_⟩
    have sc1 := sc'.step g1
    have put : ∀ {ρ2 σ2 F2 H2 fps2}, GotS X.K ρ1 σ' F1 H1 fps1 ρ2 σ2 F2 H2 fps2 → (∃ m', m' < m ∧ W m' ρ2) → ∃ m', m' < m ∧ ∃ ρ2 F2 fps2, GotS X.K ρ σ F H fps ρ2 σ2 F2 H2 fps2 ∧ W m' ρ2 := fun {ρ2 σ2 F2 H2 fps2} g2 ⟨m', hm, w2⟩ => ⟨m', hm, ρ2, F2, fps2, (g'.trans g1).trans g2, w2⟩
    exact rs_of (DD := { DD with nx := fun ρ2 => ∃ m', m' < m ∧ W m' ρ2, ct := fun ρ2 => ∃ m', m' < m ∧ W m' ρ2, bk := DD.nx }) g1.st ⟨sc1.z, fun ρ2 σ2 F2 H2 fps2 g2 => ⟨fun z => put g2 z, fun z => sc1.nx g2 z, fun z => put g2 z⟩, sc1.r⟩ q1
end
end DL

namespace DL
open PySem PySem.Spec PyProof.Rows L2
/-! ### [elt for target in iter if ..] -/
def vsOk (ρ : En) : List Nat → Prop
  | [] => True
  | v :: vs => (match ρ[v]? with
    | some .e => True
    | some (.v (.dat _)) => True
    | none => True
    | _ => False) ∧ vsOk ρ vs
def wipeE (ρ : En) : List Nat → En
  | [] => ρ
  | v :: vs => (wipeE ρ vs).set v .e
/-- the slots vs as they are in ρ0 -/
def restE (ρ0 : En) : List Nat → En → En
  | [], ρ => ρ
  | v :: vs, ρ => match ρ0[v]? with
    | some s => (restE ρ0 vs ρ).set v s
    | none => restE ρ0 vs ρ
theorem vsOk_at {ρ : En} : ∀ {vs : List Nat} {v : Nat}, vsOk ρ vs → v ∈ vs → ρ[v]? = some .e ∨ (∃ d, ρ[v]? = some (.v (.dat d))) ∨ ρ[v]? = none
  | u :: vs, v, ⟨h1, h2⟩, hm => by
    rcases List.mem_cons.mp hm with rfl | hm
    · split at h1
      · exact .inl (by assumption)
      · exact .inr (.inl ⟨_, by assumption⟩)
      · exact .inr (.inr (by assumption))
      · exact h1.elim
    · exact vsOk_at h2 hm
theorem wipeE_len {ρ : En} : ∀ vs : List Nat, (wipeE ρ vs).length = ρ.length
  | [] => rfl
  | v :: vs => by unfold wipeE; rw [List.length_set, wipeE_len vs]
theorem wipeE_in {ρ : En} : ∀ {vs : List Nat} {v : Nat}, v ∈ vs → v < ρ.length → (wipeE ρ vs)[v]? = some .e
  | u :: vs, v, hm, hl => by
    unfold wipeE
    by_cases e : u = v
    · subst e; exact List.getElem?_set_self (by rw [wipeE_len]; exact hl)
    · rw [List.getElem?_set_ne e]
      exact wipeE_in ((List.mem_cons.mp hm).resolve_left fun z => e z.symm) hl
theorem wipeE_out {ρ : En} : ∀ {vs : List Nat} {v : Nat}, v ∉ vs → (wipeE ρ vs)[v]? = ρ[v]?
  | [], v, _ => rfl
  | u :: vs, v, hm => by
    unfold wipeE
    rw [List.getElem?_set_ne fun e => hm (by subst e; exact List.mem_cons_self)]
    exact wipeE_out fun z => hm (List.mem_cons_of_mem _ z)
theorem restE_len {ρ0 ρ : En} : ∀ vs : List Nat, (restE ρ0 vs ρ).length = ρ.length
  | [] => rfl
  | v :: vs => by
    unfold restE
    split
    · rw [List.length_set, restE_len vs]
    · exact restE_len vs
theorem restE_in {ρ0 ρ : En} : ∀ {vs : List Nat} {v : Nat} {s : Sl}, v ∈ vs → ρ0[v]? = some s → v < ρ.length → (restE ρ0 vs ρ)[v]? = some s
  | u :: vs, v, s, hm, h0, hl => by
    unfold restE
    by_cases e : u = v
    · subst e; rw [h0]; exact List.getElem?_set_self (by rw [restE_len]; exact hl)
    · have hm' := (List.mem_cons.mp hm).resolve_left fun z => e z.symm
      split
      · rw [List.getElem?_set_ne e]; exact restE_in hm' h0 hl
      · exact restE_in hm' h0 hl
theorem restE_out {ρ0 ρ : En} : ∀ {vs : List Nat} {v : Nat}, v ∉ vs → (restE ρ0 vs ρ)[v]? = ρ[v]?
  | [], v, _ => rfl
  | u :: vs, v, hm => by
    unfold restE
    have hm' : v ∉ vs := fun z => hm (List.mem_cons_of_mem _ z)
    split
    · rw [List.getElem?_set_ne fun e => hm (by subst e; exact List.mem_cons_self)]; exact restE_out hm'
    · exact restE_out hm'
theorem wipe_in {σ : Sg} : ∀ {vs : List Nat} {v : Nat}, v ∈ vs → v < σ.length → (wipe σ vs)[v]? = some none
  | u :: vs, v, hm, hl => by
    unfold wipe
    by_cases e : u = v
    · subst e; exact List.getElem?_set_self (by rw [wipe_length]; exact hl)
    · rw [List.getElem?_set_ne e]
      exact wipe_in ((List.mem_cons.mp hm).resolve_left fun z => e z.symm) hl
theorem wipe_out {σ : Sg} : ∀ {vs : List Nat} {v : Nat}, v ∉ vs → (wipe σ vs)[v]? = σ[v]?
  | [], v, _ => rfl
  | u :: vs, v, hm => by
    unfold wipe
    rw [List.getElem?_set_ne fun e => hm (by subst e; exact List.mem_cons_self)]
    exact wipe_out fun z => hm (List.mem_cons_of_mem _ z)
theorem wipe_chg {σ σ' : Sg} {vs : List Nat} (c : Chg vs σ σ') : wipe σ' vs = wipe σ vs := by
  have hl := c.1
  apply List.ext_getElem?
  intro j
  by_cases hj : j ∈ vs
  · by_cases hlt : j < σ.length
    · rw [wipe_in hj hlt, wipe_in hj (by rw [hl]; exact hlt)]
    · rw [List.getElem?_eq_none (by rw [wipe_length, hl]; omega), List.getElem?_eq_none (by rw [wipe_length]; omega)]
  · rw [wipe_out hj, wipe_out hj]; exact c.2 j hj
theorem wipe_wipe {σ : Sg} {vs : List Nat} : wipe (wipe σ vs) vs = wipe σ vs := by
  apply List.ext_getElem?
  intro j
  by_cases hj : j ∈ vs
  · by_cases hlt : j < σ.length
    · rw [wipe_in hj (by rw [wipe_length]; exact hlt), wipe_in hj hlt]
    · rw [List.getElem?_eq_none (by rw [wipe_length, wipe_length]; omega), List.getElem?_eq_none (by rw [wipe_length]; omega)]
  · rw [wipe_out hj]
section
variable {K : PySem.W.Frag} {mg : Str → Option Value} {E : EX} {σ σ' σ1 σ2 : Sg} {F H F' H' F1 H1 F2 H2 : Hp} {fps fps1 fps2 fps' : Nat → Addr → Prop} {O O' fv : Addr → Prop} {Z : KX} {n : N} {v : V} {ρ ρ' ρ1 ρ2 : En} {vs : List Nat}
theorem Sta.wipe (s : Sta K F H ρ σ fps) (ok : vsOk ρ vs) : Sta K F H (wipeE ρ vs) (L2.wipe σ vs) fps := by
  refine ⟨s.wf, ⟨by rw [wipeE_len, wipe_length]; exact s.rs.len, fun i n e => ?_, fun i h1 h2 => ?_, s.rs.dis⟩⟩
  · by_cases hi : i ∈ vs
    · by_cases hl : i < ρ.length
      · rw [wipeE_in hi hl] at e; rcases e with e | e <;> cases e
      · rw [List.getElem?_eq_none (by rw [wipeE_len]; omega)] at e; rcases e with e | e <;> cases e
    · rw [wipeE_out hi] at e; rw [wipe_out hi]; exact s.rs.rel i n e
  · by_cases hi : i ∈ vs
    · rcases vsOk_at ok hi with e | ⟨d, e⟩ | e
      · exact s.rs.emp i (fun n z => by rw [e] at z; cases z) fun n z => by rw [e] at z; cases z
      · obtain ⟨v, _, r⟩ := s.rs.rel i _ (.inl e); exact r.1
      · exact s.rs.emp i (fun n z => by rw [e] at z; cases z) fun n z => by rw [e] at z; cases z
    · refine s.rs.emp i (fun n => ?_) fun n => ?_
      · have := h1 n; rw [wipeE_out hi] at this; exact this
      · have := h2 n; rw [wipeE_out hi] at this; exact this
/-- a turn of the block is over -/
theorem GotS.rest (s : Sta K F H ρ σ fps) (ok : vsOk ρ vs) (g : GotS K (wipeE ρ vs) (L2.wipe σ vs) F H fps ρ' σ' F' H' fps') (hw : L2.wipe σ' vs = L2.wipe σ vs) :
    ∃ fps2, GotS K ρ σ F H fps (restE ρ vs ρ') σ F' H' fps2 := by
  classical
  refine ⟨fun i => if i ∈ vs then Nil else fps' i, ?_⟩
  have sub : ∀ b, Ow (fun i => if i ∈ vs then Nil else fps' i) b → Ow fps' b := fun b ⟨i, hi⟩ => by
    by_cases hv : i ∈ vs
    · simp only [hv, if_true] at hi; exact hi.elim
    · simp only [hv, if_false] at hi; exact ⟨i, hi⟩
  have hlr : ρ'.length = ρ.length := by
    rw [g.st.rs.len, ← wipe_length σ' vs, hw, wipe_length]; exact s.rs.len.symm
  have at_ : ∀ i, i ∉ vs → σ'[i]? = σ[i]? := fun i hi => by rw [← wipe_out (σ := σ') hi, hw, wipe_out hi]
  have rin : ∀ i, i ∈ vs → (restE ρ vs ρ')[i]? = ρ[i]? := fun i hi => by
    cases e : ρ[i]? with
    | none =>
      rw [List.getElem?_eq_none]
      rw [restE_len, hlr]
      exact List.getElem?_eq_none_iff.mp e
    | some sl => exact restE_in hi e (by rw [hlr]; exact (List.getElem?_eq_some_iff.mp e).1)
  refine ⟨g.tr.less sub, ⟨g.st.wf.less sub, ⟨by rw [restE_len, hlr]; exact s.rs.len, fun i n e => ?_, fun i h1 h2 => ?_, fun i j a hij hi hj => ?_⟩⟩, fun i n e => ⟨?_, rfl⟩⟩
  · by_cases hi : i ∈ vs
    · rw [rin i hi] at e
      simp only [hi, if_true]
      obtain ⟨v, hv, r⟩ := s.rs.rel i n e
      rcases vsOk_at ok hi with z | ⟨d, z⟩ | z
      · rw [z] at e; rcases e with e | e <;> cases e
      · rw [z] at e
        rcases e with e | e
        · cases e; exact ⟨v, hv, rfl, r.2.mono g.tr.grow⟩
        · cases e
      · rw [z] at e; rcases e with e | e <;> cases e
    · rw [restE_out hi] at e
      simp only [hi, if_false]
      rw [← at_ i hi]
      exact g.st.rs.rel i n e
  · by_cases hi : i ∈ vs
    · simp only [hi, if_true]
    · simp only [hi, if_false]
      refine g.st.rs.emp i (fun n => ?_) fun n => ?_
      · have := h1 n; rw [restE_out hi] at this; exact this
      · have := h2 n; rw [restE_out hi] at this; exact this
  · by_cases h1 : i ∈ vs
    · simp only [h1, if_true] at hi; exact hi
    · by_cases h2 : j ∈ vs
      · simp only [h2, if_true] at hj; exact hj
      · simp only [h1, h2, if_false] at hi hj; exact g.st.rs.dis i j a hij hi hj
  · by_cases hi : i ∈ vs
    · rcases vsOk_at ok hi with z | ⟨d, z⟩ | z <;> (rw [z] at e; cases e)
    · rw [restE_out hi]
      have e' : (wipeE ρ vs)[i]? = some (.p n) := by rw [wipeE_out hi]; exact e
      exact (g.pk i n e').1
/-- a value held apart while the rest goes on -/
theorem Got.carry (g : Got K ρ σ F H fps n v ρ1 σ1 F1 H1 fps1 fv) (t : GotS K ρ1 σ1 F1 H1 fps1 ρ2 σ2 F2 H2 fps2) : Got K ρ σ F H fps n v ρ2 σ2 F2 H2 fps2 fv := by
  have rn := t.tr.held g.rn g.ap
  refine ⟨g.tr.trans ⟨t.tr.grow, fun b h h' => (t.tr.new b h h').elim (fun z => .inl (.inl z)) .inr, fun b o e no => t.tr.keep b o e fun z => no (.inl z), fun b z => z.elim (fun z => (t.tr.sub b z).elim (fun z => .inl (.inl z)) .inr) fun z => .inl (.inr z)⟩,
    ⟨t.st.wf.sub, fun b z => z.elim (t.st.wf.out b) fun z => t.tr.unfr (g.wf.out b (.inr z)) (g.ap b z) (g.rn.dom b z) (g.rn.nt b z), fun b z => z.elim (t.st.wf.dom b) fun z => rn.dom b z⟩, t.st.rs, g.pk.trans t.pk, rn, fun a ha => t.tr.apart (g.ap a ha) (g.rn.dom a ha)⟩
/-- a new content for the own list that is held -/
theorem Got.putL {D : Addr} {ds es : List PyData} {ws : List V} (g : Got K ρ σ F H fps (.lst ds) (.ref D) ρ1 σ1 F1 H1 fps1 fv) (q : DqAll K F1 ws es) : Got K ρ σ F H fps (.lst es) (.ref D) ρ1 σ1 F1 (upd H1 D (.lst ws)) fps1 fv := by
  obtain ⟨a, vs, e1, e2, e3, _⟩ := g.rn
  cases e1
  have hD : fv D := by rw [e2]; rfl
  refine ⟨⟨g.tr.grow, g.tr.new, fun b o e no => ?_, g.tr.sub⟩, ⟨fun b o e => ?_, g.wf.out, fun b z => ?_⟩, g.rs.stay (.refl _) fun b hb => ?_, g.pk, ⟨D, ws, rfl, e2, upd_same, q⟩, g.ap⟩
  · have hb : b ≠ D := fun z => by
      subst z
      rcases g.tr.sub b (.inr hD) with z | z
      · exact no z
      · rw [e] at z; cases z
    rw [upd_ne hb]; exact g.tr.keep b o e no
  · have hb : b ≠ D := fun z => by
      subst z; rw [g.wf.out b (.inr hD)] at e; cases e
    rw [upd_ne hb]; exact g.wf.sub b o e
  · by_cases hb : b = D
    · subst hb; rw [upd_same]; exact fun q => nomatch q
    · rw [upd_ne hb]; exact g.wf.dom b z
  · have hb' : b ≠ D := fun z => by subst z; exact g.ap b hD hb
    rw [upd_ne hb']
end
def Z0 : KX := fun _ _ => False
def lcLoop (vs : List Nat) (g : WG) (tt : WT) (te : WE) (Q : N → En → Prop) : List PyData → En → List PyData → Prop
  | [], ρ, acc => Q (.lst acc) ρ
  | d :: ds, ρ, acc => vsOk ρ vs ∧ g d (wipeE ρ vs) fun ρ2 => tt Z0 ρ2 fun b ρ3 => if b = true then te Z0 ρ3 fun n ρ4 => asD n fun e => acc.length < 100000 ∧ lcLoop vs g tt te Q ds (restE ρ vs ρ4) (acc ++ [e]) else lcLoop vs g tt te Q ds (restE ρ vs ρ3) acc
def wLc (wi : WI) (vs : List Nat) (g : WG) (tt : WT) (te : WE) : WE := fun Z ρ Q => wi Z ρ fun ds ρ1 => lcLoop vs g tt te Q ds ρ1 []
def wYes : WT := fun _ ρ Q => Q true ρ
section
variable {X : Cx} {E E2 : EX} {wi : WI} {vs : List Nat} {g : WG} {tt : WT} {te : WE}
theorem ts_nil : PTs X [] (rt X.K X.mg E wYes) := ⟨fun pins s σ H Q I ⟨ρ, F, fps, Z, Qd, st, hw, zc, k⟩ => pts_nil.run pins s σ H Q I (k _ _ _ _ _ (.refl st) hw)⟩
theorem ts_one {c : Expr} (h : PT X c (rt X.K X.mg E tt)) : PTs X [c] (rt X.K X.mg E tt) := pts_one h
theorem ZC0 {K : PySem.W.Frag} {mg : Str → Option Value} {E : EX} {ρ : En} {σ : Sg} {F H : Hp} {fps : Nat → Addr → Prop} : ZC K mg E ρ σ F H fps Z0 := fun _ _ _ _ _ _ _ _ _ _ z => z.elim
theorem lc_imp {l : Bool} : ∀ σ H Q, rd X.K X.mg E (wLc wi vs g tt te) σ H Q → tLc (riB l X.K X.mg E wi) (rgB l X.K vs g) (rt X.K X.mg E2 tt) (rd X.K X.mg E2 te) vs σ H Q := fun σ H Q ⟨ρ, F, fps, Z, Qd, st, hw, zc, k⟩ => by
  refine ⟨ρ, F, fps, Z, _, st, hw, zc, fun J ds ρ1 F1 H1 fps1 g1 sm q => ?_⟩
  intro D hD
  have g0 : Got X.K ρ1 σ F1 H1 fps1 (.lst []) (.ref D) ρ1 σ F1 (upd H1 D (.lst [])) fps1 (One D) := .lst g1.st hD .nil
  refine ⟨fun i m H' => m = ds.length - i ∧ i ≤ ds.length ∧ ∃ acc ρ' F' fps', Got X.K ρ1 σ F1 H1 fps1 (.lst acc) (.ref D) ρ' σ F' H' fps' (One D) ∧ lcLoop vs g tt te Qd (ds.drop i) ρ' acc, ⟨ds.length, rfl, Nat.zero_le _, [], ρ1, F1, fps1, g0, q⟩, ?_⟩
  rintro i m H' ⟨rfl, hi, acc, ρ', F', fps', g', q'⟩
  by_cases hlt : i < ds.length
  · have ed : ds.drop i = ds[i] :: ds.drop (i + 1) := List.drop_eq_getElem_cons hlt
    rw [ed] at q'
    obtain ⟨ok, q'⟩ := q'
    refine .inr ⟨sm.go hlt g'.tr.grow g'.wf.sub, fun H2 => ∃ acc2 ρ2 F2 fps2, Got X.K ρ1 σ F1 H1 fps1 (.lst acc2) (.ref D) ρ2 σ F2 H2 fps2 (One D) ∧ lcLoop vs g tt te Qd (ds.drop (i + 1)) ρ2 acc2, fun H2 ⟨acc2, ρ2, F2, fps2, g2, q2⟩ => ⟨ds.length - (i + 1), by omega, rfl, hlt, acc2, ρ2, F2, fps2, g2, q2⟩, fun x H2 y => ?_⟩
    obtain ⟨F2, gr, dqx⟩ := sm.yld (List.getElem?_eq_getElem hlt) g'.tr.grow g'.wf.sub y
    have gt := gr g'.st
    have sw := gt.st.wipe ok
    refine ⟨wipeE ρ' vs, F2, fps', _, _, sw, dqx, q', fun ρ3 σ3 F3 H3 fps3 g3 c3 q3 => ?_⟩
    have hw3 : wipe σ3 vs = wipe σ vs := by rw [wipe_chg c3, wipe_wipe]
    refine ⟨by rw [hw3] <;> exact wipe_wipe.symm, ?_⟩
    refine partT g3.st ZC0 q3 fun b ρ4 F4 H4 fps4 g4 q4 => ?_
    cases b with
    | false =>
      refine iteF ?_
      obtain ⟨fps5, g5⟩ := GotS.rest gt.st ok (g3.trans g4) hw3
      exact ⟨acc, _, _, _, g'.carry (gt.trans g5), q4⟩
    | true =>
      refine iteT (part g4.st ZC0 (show te Z0 ρ4 _ from q4) fun d v ρ5 F5 H5 fps5 g5 dq q5 => ?_)
      obtain ⟨fps6, g6⟩ := GotS.rest gt.st ok ((g3.trans g4).trans g5) hw3
      have gc := g'.carry (gt.trans g6)
      obtain ⟨a, xs, e1, e2, e3, qx⟩ := gc.rn
      cases e1
      exact ⟨xs, e3, by rw [qx.length]; exact Nat.lt_of_lt_of_le q5.1 (by decide), _, _, _, _, gc.putL (qx.append (.cons dq .nil)), q5.2⟩
  · have e : i = ds.length := by omega
    subst e
    rw [List.drop_length] at q'
    exact .inl ⟨sm.stop g'.tr.grow g'.wf.sub, k _ _ _ _ _ _ _ (g'.after g1) q'⟩
end
end DL

namespace DL
open PySem PySem.Spec PyProof.Rows L2
/-- nothing is wished of exceptions -/
def EF : EX := fun _ _ _ _ => False
section
variable {X : Cx} {E : EX} {elt tg iter : Expr} {ifs : List Expr} {scope : Scope} {own : List (Str × Nat)} {pos spos py : Pos} {wi : WI} {g : WG} {tt : WT} {te : WE} {i : Nat} {y : Str}
theorem d_lc {l : Bool} (hc : X.calm = true) (hN : X.N.Nodup) (ok : BlkOk X.N X.env.scope scope own) (hi : PI X tg iter (riB l X.K X.mg E wi))
    (hg : ∀ (s : Shared) (H : Hp) (C : Addr) (cl : List (Str × Addr)) (fp : List Addr), PG (X.blk s H scope (compEnvC scope cl C X.env) fp) tg (rgB l X.K (own.map (·.2)) g))
    (ht : ∀ (s : Shared) (H : Hp) (C : Addr) (cl : List (Str × Addr)) (fp : List Addr), PTs (X.blk s H scope (compEnvC scope cl C X.env) fp) ifs (rt X.K X.mg EF tt))
    (he : ∀ (s : Shared) (H : Hp) (C : Addr) (cl : List (Str × Addr)) (fp : List Addr), PE (X.blk s H scope (compEnvC scope cl C X.env) fp) elt (rd X.K X.mg EF te)) (hs : ∀ x, foldedSetIterable iter X.env x = pure x := by intro _; rfl) :
    PE X (.ListComp elt [⟨tg, iter, ifs, 0⟩] scope pos) (rd X.K X.mg E (wLc wi (own.map (·.2)) g tt te)) := pe_imp (pe_lc hc hN hi ok hg ht he hs) lc_imp
/-- name = [..] -/
theorem s_setLc {l : Bool} (hy : X.N[i]? = some y) (hyl : X.env.scope.names.lookup y = some .local) (hsw : swapsWith (.ListComp elt [⟨tg, iter, ifs, 0⟩] scope pos) (some (.Name y py)) spos.line X.env = pure true)
    (hc : X.calm = true) (hN : X.N.Nodup) (ok : BlkOk X.N X.env.scope scope own) (hi : PI X tg iter (riB l X.K X.mg E wi))
    (hg : ∀ (s : Shared) (H : Hp) (C : Addr) (cl : List (Str × Addr)) (fp : List Addr), PG (X.blk s H scope (compEnvC scope cl C X.env) fp) tg (rgB l X.K (own.map (·.2)) g))
    (ht : ∀ (s : Shared) (H : Hp) (C : Addr) (cl : List (Str × Addr)) (fp : List Addr), PTs (X.blk s H scope (compEnvC scope cl C X.env) fp) ifs (rt X.K X.mg EF tt))
    (he : ∀ (s : Shared) (H : Hp) (C : Addr) (cl : List (Str × Addr)) (fp : List Addr), PE (X.blk s H scope (compEnvC scope cl C X.env) fp) elt (rd X.K X.mg EF te)) (hs : ∀ x, foldedSetIterable iter X.env x = pure x := by intro _; rfl) :
    PS X (.Assign [.Name y py] (.ListComp elt [⟨tg, iter, ifs, 0⟩] scope pos) spos) (rs X.K X.mg E (sSetN i (wLc wi (own.map (·.2)) g tt te))) := ps_imp (ps_setLc hc hN hy hyl hsw hi ok hg ht he hs) fun D σ H h => by
  obtain ⟨ρ, F, fps, Z, DD, st, sc, hw⟩ := rs_open h
  exact lc_imp σ H _ (rd_of st sc.z hw fun n v ρ1 F1 H1 fps1 fv g h1 => sc.nx (g.store h1.1) h1.2)
end
/-- a value, frozen -/
def wF (w : WE) : WE := fun Z ρ Q => w Z ρ fun n ρ1 => asD n fun d => Q (.dat d) ρ1
theorem d_fz {X : Cx} {E : EX} {e : Expr} {w : WE} (h : PE X e (rd X.K X.mg E w)) : PE X e (rd X.K X.mg E (wF w)) := pe_imp h fun σ H Q ⟨ρ, F, fps, Z, Qd, st, hw, zc, k⟩ => part st zc hw fun d v ρ1 F1 H1 fps1 g q h1 => k _ _ _ _ _ _ _ (.of g q) h1

/-! ### a[i], a[i:j] -/
def atD {α : Type} (xs : List α) (i : Int) (k : α → Prop) : Prop := match atI xs i with
  | some d => k d
  | none => False
theorem atD_of {α : Type} {xs : List α} {i : Int} {k : α → Prop} (h : atD xs i k) : ∃ d, atI xs i = some d ∧ k d := by
  unfold atD at h
  split at h
  · exact ⟨_, by assumption, h⟩
  · exact h.elim
theorem DqAll.atI {K : PySem.W.Frag} {F : Hp} {vs : List V} {ds : List PyData} {i : Int} {d : PyData} (q : DqAll K F vs ds) (h : atI ds i = some d) : ∃ v, L2.atI vs i = some v ∧ Dq K F v d := by
  unfold L2.atI at h ⊢
  rw [q.length]
  cases e : ixN ds.length i with
  | none => rw [e] at h; cases h
  | some j =>
    rw [e] at h
    exact q.getD (i := j) h
def oIx : O2 := fun x y k => match y with
  | .int i => (match x with
    | .list ds => atD ds i fun d => k (.dat d)
    | .tuple ds => atD ds i fun d => k (.dat d)
    | .str z => z.length ≤ 100000 ∧ atD z.cps.toList i fun c => k (.dat (.str ⟨#[c]⟩))
    | _ => False)
  | _ => False
section
variable {X : Cx} {E : EX} {a b : Expr} {wa wb : WX} {pos : Pos}
theorem ix_road {F H : Hp} {d1 d2 : PyData} {v1 v2 : V} {k : N → Prop} {Q' : VK} (s : Same F H) (q1 : Lk X.K F H v1 d1) (q2 : Lk X.K F H v2 d2) (ho : oIx d1 d2 k) (go : ∀ n v F' H' fv, Grow X.K F H n v F' H' fv → k n → Q' v H') : rIx X.K v1 v2 H Q' := by
  cases d2 with
  | int i =>
    obtain rfl := q2.int
    cases d1 with
    | list ds =>
      obtain ⟨d, e, h⟩ := atD_of ho
      obtain ⟨p, xs, rfl, h1, t⟩ := lstH s q1
      obtain ⟨v, ev, dq⟩ := t.atI e
      exact .inl ⟨p, xs, i, v, rfl, rfl, SqL.of h1, ev, go _ _ _ _ _ (.dat dq) h⟩
    | tuple ds =>
      obtain ⟨d, e, h⟩ := atD_of ho
      obtain ⟨p, xs, rfl, _, h1, t⟩ := tupH s q1
      obtain ⟨v, ev, dq⟩ := t.atI e
      exact .inr (.inl ⟨p, xs, i, v, rfl, rfl, h1, ev, go _ _ _ _ _ (.dat dq) h⟩)
    | str z =>
      obtain ⟨hz, ho⟩ := ho
      obtain ⟨c, e, h⟩ := atD_of ho
      cases q1 with
      | d q1 =>
        cases q1
        exact .inr (.inr ⟨z, i, c, rfl, rfl, sz5 hz, e, go _ _ _ _ _ (.dat (.str _)) h⟩)
    | _ => exact ho.elim
  | _ => exact ho.elim
theorem d_ix (ha : PE X a (rx X.K X.mg E wa)) (hb : PE X b (rx X.K X.mg E wb)) (hs : PlainIx b := by intro _ _; rfl) : PE X (.Subscript a b pos) (rd X.K X.mg E (wO oIx wa wb)) := pe_imp (pe_ix ix_seq ha hb hs) (two ix_road)
/-! slices -/
def cutD {α : Type} (xs : List α) (lo hi : Option Int) : List α := (xs.drop (HT.sIx xs.length 0 lo)).take (HT.sIx xs.length xs.length hi - HT.sIx xs.length 0 lo)
theorem DqAll.cut {K : PySem.W.Frag} {F : Hp} {vs : List V} {ds : List PyData} (q : DqAll K F vs ds) (lo hi : Option Int) : DqAll K F (cutV vs lo hi) (cutD ds lo hi) := by
  unfold cutV cutD
  rw [q.length]
  exact (q.drop _).take _
abbrev WO := KX → En → (Option Int → En → Prop) → Prop
def ro (K : PySem.W.Frag) (mg : Str → Option Value) (E : EX) (w : WO) : TO := fun σ H Q' => ∃ ρ F fps Z Q, Sta K F H ρ σ fps ∧ w Z ρ Q ∧ ZC K mg E ρ σ F H fps Z ∧
  ∀ o ρ' F' H' fps', GotS K ρ σ F H fps ρ' σ F' H' fps' → Q o ρ' → Q' o H'
def pNo : WO := fun _ ρ Q => Q none ρ
def pSo (w : WX) : WO := fun Z ρ Q => w Z ρ fun a ρ1 => lkD ρ1 a fun d => match d with
  | .int i => Q (some i) ρ1
  | _ => False
theorem po_imp {e : Option Expr} {t t' : TO} (h : PO X e t) (i : ∀ σ H Q, t' σ H Q → t σ H Q) : PO X e t' := ⟨fun pins s σ H Q I q => h.run pins s σ H Q I (i σ H Q q)⟩
theorem o_no : PO X none (ro X.K X.mg E pNo) := po_imp po_none fun σ H Q ⟨ρ, F, fps, Z, Qd, st, hw, zc, k⟩ => k _ _ _ _ _ (.refl st) hw
theorem o_so (h : PE X a (rx X.K X.mg E wa)) : PO X (some a) (ro X.K X.mg E (pSo wa)) := po_imp (po_some h) fun σ H Q ⟨ρ, F, fps, Z, Qd, st, hw, zc, k⟩ => ⟨ρ, F, fps, Z, _, st, hw, zc, fun a v ρ1 F1 H1 fps1 g1 q1 h1 => by
  obtain ⟨x, h3, l1⟩ := lk_rel g1.st.rs q1 h1
  cases x with
  | int i =>
    obtain rfl := l1.int
    exact ⟨i, rfl, k _ _ _ _ _ g1 h3⟩
  | _ => exact h3.elim⟩
def wSl (wa : WX) (wl wu : WO) : WE := fun Z ρ Q => wa Z ρ fun a ρ1 => wl Z ρ1 fun lo ρ2 => wu Z ρ2 fun hi ρ3 => lkD ρ3 a fun x => match x with
  | .list ds => Q (.lst (cutD ds lo hi)) ρ3
  | .tuple ds => Q (.dat (.tuple (cutD ds lo hi))) ρ3
  | _ => False
theorem cut_all {α : Type} {xs : List α} {lo hi : Option Int} (h : HT.sIx xs.length 0 lo = 0 ∧ HT.sIx xs.length xs.length hi = xs.length) : cutD xs lo hi = xs := by
  unfold cutD
  rw [h.1, h.2, List.drop_zero, Nat.sub_zero, List.take_length]
theorem d_sl {lo hi : Option Expr} {wl wu : WO} {p2 : Pos} (ha : PE X a (rx X.K X.mg E wa)) (hl : PO X lo (ro X.K X.mg E wl)) (hu : PO X hi (ro X.K X.mg E wu)) : PE X (.Subscript a (.Slice lo hi none p2) pos) (rd X.K X.mg E (wSl wa wl wu)) :=
  pe_imp (pe_slice (sl_list.or sl_tupB) ha hl hu) fun σ H Q ⟨ρ, F, fps, Z, Qd, st, hw, zc, k⟩ => by
    refine ⟨ρ, F, fps, Z, _, st, hw, zc, fun a v ρ1 F1 H1 fps1 g1 q1 h1 => ?_⟩
    refine ⟨ρ1, F1, fps1, Z, _, g1.st, h1, zc.step g1, fun l ρ2 F2 H2 fps2 g2 h2 => ?_⟩
    refine ⟨ρ2, F2, fps2, Z, _, g2.st, h2, (zc.step g1).step g2, fun u ρ3 F3 H3 fps3 g3 h3 => ?_⟩
    obtain ⟨x, h4, l1⟩ := lk_rel g3.st.rs (q1.mono (g2.trans g3).tr.grow) h3
    have gg := g1.trans (g2.trans g3)
    cases x with
    | list ds =>
      obtain ⟨p, xs, rfl, e, t⟩ := lstH g3.st.wf.sub l1
      exact .inl ⟨p, xs, rfl, SqL.of e, fun q hq => k _ _ _ _ _ _ _ (.after gg (.lst g3.st hq (t.cut l u))) h4⟩
    | tuple ds =>
      obtain ⟨p, xs, rfl, _, e, t⟩ := tupH g3.st.wf.sub l1
      refine .inr ⟨p, xs, rfl, e, fun hh => ?_, fun _ q o ho hq => k _ _ _ _ _ _ _ (.after gg (.tup g3.st hq ho (t.cut l u))) h4⟩
      rw [t.length] at hh
      have h5 : Qd (.dat (.tuple (cutD ds l u))) ρ3 := h4
      rw [cut_all hh] at h5
      exact k _ _ _ _ _ _ _ (.after gg (.here g3.st l1.tupD)) h5
    | _ => exact h4.elim
/-- a[::-1] of a list -/
def wRv (wa : WX) : WE := fun Z ρ Q => wa Z ρ fun a ρ1 => lkD ρ1 a fun x => match x with
  | .list ds => Q (.lst ds.reverse) ρ1
  | _ => False
theorem d_rv {k : Nat} {p1 p2 p3 : Pos} (ha : PE X a (rx X.K X.mg E wa)) : PE X (.Subscript a (.Slice none none (some (.UnaryOp .USub (.Constant (.int 1) k p1) p2)) p3) pos) (rd X.K X.mg E (wRv wa)) :=
  pe_imp (pe_revL ha) fun σ H Q ⟨ρ, F, fps, Z, Qd, st, hw, zc, k⟩ => ⟨ρ, F, fps, Z, _, st, hw, zc, fun a v ρ1 F1 H1 fps1 g1 q1 h1 => by
    obtain ⟨x, h4, l1⟩ := lk_rel g1.st.rs q1 h1
    cases x with
    | list ds =>
      obtain ⟨p, xs, rfl, e, t⟩ := lstH g1.st.wf.sub l1
      exact ⟨p, xs, rfl, SqL.of e, fun q hq => k _ _ _ _ _ _ _ (.after g1 (.lst g1.st hq t.reverse)) h4⟩
    | _ => exact h4.elim⟩
/-! a < b < c -/
def wCh (o o' : O2) (wa wb wc : WX) : WE := fun Z ρ Q => wa Z ρ fun a ρ1 => wb Z ρ1 fun b ρ2 => lkD ρ2 a fun x => lkD ρ2 b fun y => o x y fun r => bD r fun k =>
  if k = true then wc Z ρ2 fun c ρ3 => lkD ρ3 b fun y' => lkD ρ3 c fun z => o' y' z fun r => Q r ρ3 else Q (.dat (.bool false)) ρ2
theorem ch_road {o o' : O2} {r r' : R2} {wc : WX}
    (hr : ∀ {F H d1 d2 v1 v2 k Q'}, Same F H → Lk X.K F H v1 d1 → Lk X.K F H v2 d2 → o d1 d2 k → (∀ n v F' H' fv, Grow X.K F H n v F' H' fv → k n → Q' v H') → r v1 v2 H Q')
    (hr' : ∀ {F H d1 d2 v1 v2 k Q'}, Same F H → Lk X.K F H v1 d1 → Lk X.K F H v2 d2 → o' d1 d2 k → (∀ n v F' H' fv, Grow X.K F H n v F' H' fv → k n → Q' v H') → r' v1 v2 H Q') :
    ∀ σ H Q, rd X.K X.mg E (wCh o o' wa wb wc) σ H Q → tChain r r' (rx X.K X.mg E wa) (rx X.K X.mg E wb) (rx X.K X.mg E wc) σ H Q := fun σ H Q ⟨ρ, F, fps, Z, Qd, st, hw, zc, k⟩ => by
  refine ⟨ρ, F, fps, Z, _, st, hw, zc, fun a v1 ρ1 F1 H1 fps1 g1 q1 h1 => ?_⟩
  refine ⟨ρ1, F1, fps1, Z, _, g1.st, h1, zc.step g1, fun b v2 ρ2 F2 H2 fps2 g2 q2 h2 => ?_⟩
  obtain ⟨x, h3, l1⟩ := lk_rel g2.st.rs (q1.mono g2.tr.grow) h2
  obtain ⟨y, h4, l2⟩ := lk_rel g2.st.rs q2 h3
  refine hr g2.st.wf.sub l1 l2 h4 fun n v F' H' fv gr q => ?_
  obtain ⟨b', rfl, q⟩ := bD_of q
  have g3 := gr.got g2.st
  obtain ⟨e1, dq⟩ := g3.rn
  cases dq
  have gg := (g1.trans g2).trans g3.s
  refine ⟨b', rfl, ?_⟩
  cases b' with
  | false => exact iteF (k _ _ _ _ _ _ _ (.of gg (.bl false)) q)
  | true =>
    refine iteT ⟨_, _, _, Z, _, g3.st, (show wc Z ρ2 _ from q), (zc.step gg), fun c v3 ρ3 F3 H3 fps3 g4 q3 h5 => ?_⟩
    obtain ⟨y', h6, l3⟩ := lk_rel g4.st.rs (q2.mono (g3.s.trans g4).tr.grow) h5
    obtain ⟨z, h7, l4⟩ := lk_rel g4.st.rs q3 h6
    exact hr' g4.st.wf.sub l3 l4 h7 fun n v F' H' fv gr q => k _ _ _ _ _ _ _ (.after (gg.trans g4) (gr.got g4.st)) q
theorem d_ch {op op' : CmpOp} {o o' : O2} {c : Expr} {wc : WX} (ho : OpD X (compareOp op) o) (ho' : OpD X (compareOp op') o') (ha : PE X a (rx X.K X.mg E wa)) (hb : PE X b (rx X.K X.mg E wb)) (hc : PE X c (rx X.K X.mg E wc))
    (hm : lastMarks [op, op'] [b, c] = false := by with_unfolding_all rfl) : PE X (.Compare a [op, op'] [b, c] pos) (rd X.K X.mg E (wCh o o' wa wb wc)) :=
  let ⟨_, q1, q2⟩ := ho
  let ⟨_, q3, q4⟩ := ho'
  pe_imp (pe_chain q1 q3 ha hb hc hm) (ch_road q2 q4)
theorem t_ch {op op' : CmpOp} {o o' : O2} {c : Expr} {wc : WX} (ho : OpD X (compareOp op) o) (ho' : OpD X (compareOp op') o') (ha : PE X a (rx X.K X.mg E wa)) (hb : PE X b (rx X.K X.mg E wb)) (hc : PE X c (rx X.K X.mg E wc))
    (hm : lastMarks [op, op'] [b, c] = false := by with_unfolding_all rfl) : PT X (.Compare a [op, op'] [b, c] pos) (rt X.K X.mg E (wB (wCh o o' wa wb wc))) :=
  let ⟨r, q1, q2⟩ := ho
  let ⟨r', q3, q4⟩ := ho'
  pt_imp (pt_chain q1 q3 ha hb hc hm) fun σ H Q ⟨ρ, F, fps, Z, Qd, st, hw, zc, k⟩ => ch_road (r := r) (r' := r') q2 q4 σ H _ ⟨ρ, F, fps, Z, _, st, hw, zc, fun n v ρ' F' H' fps' fv g q => by
    obtain ⟨b, rfl, q⟩ := bD_of q
    obtain ⟨rfl, dq⟩ := g.rn
    cases dq
    exact ⟨b, rfl, k _ _ _ _ _ g.s q⟩⟩
end
end DL

namespace DL
open PySem PySem.Spec PyProof.Rows L2
/-! ### several values at once -/
abbrev Hd := N × V × (Addr → Prop)
def OwL : List Hd → Addr → Prop
  | [] => Nil
  | x :: L => Or2 x.2.2 (OwL L)
structure GotL (K : PySem.W.Frag) (ρ : En) (σ : Sg) (F H : Hp) (fps : Nat → Addr → Prop) (L : List Hd) (ρ' : En) (σ' : Sg) (F' H' : Hp) (fps' : Nat → Addr → Prop) : Prop where
  tr : Tr F H (Ow fps) F' H' (Or2 (Ow fps') (OwL L))
  wf : Wf F' H' (Or2 (Ow fps') (OwL L))
  rs : RelS K F' H' ρ' σ' fps'
  pk : Pk ρ σ ρ' σ'
  rn : ∀ x ∈ L, RelN K F' H' x.1 x.2.1 x.2.2
  ap : ∀ a, OwL L a → ¬ Ow fps' a
  dis : L.Pairwise fun x y => ∀ a, x.2.2 a → ¬ y.2.2 a
theorem owL_mem {L : List Hd} {a : Addr} : OwL L a → ∃ x ∈ L, x.2.2 a := by
  induction L with
  | nil => exact fun h => h.elim
  | cons x L ih => exact fun h => h.elim (fun h => ⟨x, List.mem_cons_self, h⟩) fun h => let ⟨y, m, q⟩ := ih h; ⟨y, List.mem_cons_of_mem _ m, q⟩
theorem owL_of {L : List Hd} {a : Addr} {x : Hd} (m : x ∈ L) (h : x.2.2 a) : OwL L a := by
  induction L with
  | nil => cases m
  | cons y L ih => exact (List.mem_cons.mp m).elim (fun e => .inl (by subst e; exact h)) fun m => .inr (ih m)
section
variable {K : PySem.W.Frag} {mg : Str → Option Value} {E : EX} {σ σ' σ1 σ2 : Sg} {F H F' H' F1 H1 F2 H2 : Hp} {fps fps1 fps2 fps' : Nat → Addr → Prop} {O O' fv : Addr → Prop} {Z : KX} {n : N} {v : V} {ρ ρ' ρ1 ρ2 : En} {L : List Hd}
theorem GotL.nil (g : GotS K ρ σ F H fps ρ' σ' F' H' fps') : GotL K ρ σ F H fps [] ρ' σ' F' H' fps' :=
  ⟨g.tr.less fun b h => h.elim id fun z => z.elim, g.st.wf.less fun b h => h.elim id fun z => z.elim, g.st.rs, g.pk, fun _ h => (nomatch h), fun _ h => h.elim, .nil⟩
theorem GotL.s (g : GotL K ρ σ F H fps L ρ' σ' F' H' fps') : GotS K ρ σ F H fps ρ' σ' F' H' fps' := ⟨g.tr.less fun _ h => .inl h, ⟨g.wf.less fun _ h => .inl h, g.rs⟩, g.pk⟩
theorem GotL.cons (g : Got K ρ σ F H fps n v ρ1 σ1 F1 H1 fps1 fv) (t : GotL K ρ1 σ1 F1 H1 fps1 L ρ2 σ2 F2 H2 fps2) : GotL K ρ σ F H fps ((n, v, fv) :: L) ρ2 σ2 F2 H2 fps2 := by
  have rn := t.tr.held g.rn g.ap
  have apt : ∀ a, fv a → ¬ Or2 (Ow fps2) (OwL L) a := fun a ha => t.tr.apart (g.ap a ha) (g.rn.dom a ha)
  refine ⟨g.tr.trans ⟨t.tr.grow, fun b h h' => (t.tr.new b h h').elim (fun z => .inl (.inl z)) .inr, fun b o e no => t.tr.keep b o e fun z => no (.inl z), fun b z => ?_⟩,
    ⟨t.wf.sub, fun b z => ?_, fun b z => ?_⟩, t.rs, g.pk.trans t.pk, fun x m => ?_, fun a h => ?_, .cons (fun y m a ha hy => apt a ha (.inr (owL_of m hy))) t.dis⟩
  · rcases z with z | z | z
    · exact (t.tr.sub b (.inl z)).elim (fun z => .inl (.inl z)) .inr
    · exact .inl (.inr z)
    · exact (t.tr.sub b (.inr z)).elim (fun z => .inl (.inl z)) .inr
  · rcases z with z | z | z
    · exact t.wf.out b (.inl z)
    · exact t.tr.unfr (g.wf.out b (.inr z)) (g.ap b z) (g.rn.dom b z) (g.rn.nt b z)
    · exact t.wf.out b (.inr z)
  · rcases z with z | z | z
    · exact t.wf.dom b (.inl z)
    · exact rn.dom b z
    · exact t.wf.dom b (.inr z)
  · rcases List.mem_cons.mp m with e | m
    · subst e; exact rn
    · exact t.rn x m
  · rcases h with h | h
    · exact fun z => apt a h (.inl z)
    · exact t.ap a h
theorem GotL.pop {i : Nat} (g : GotL K ρ σ F H fps ((n, v, fv) :: L) ρ' σ' F' H' fps') (hp : notP ρ' i) : ∃ fps2, GotL K ρ σ F H fps L (ρ'.set i (.v n)) (σ'.set i (some v)) F' H' fps2 := by
  have dl : ∀ a, fv a → ¬ OwL L a := fun a ha hl => by
    obtain ⟨y, m, q⟩ := owL_mem hl
    exact (List.pairwise_cons.mp g.dis).1 y m a ha q
  by_cases hi : i < ρ'.length
  · have hi' : i < σ'.length := by rw [← g.rs.len]; exact hi
    have sub : ∀ b, Or2 (Ow (setF fps' i fv)) (OwL L) b → Or2 (Ow fps') (OwL ((n, v, fv) :: L)) b := fun b z => by
      rcases z with ⟨j, hj⟩ | z
      · by_cases e : j = i
        · rw [setF_same' e] at hj; exact .inr (.inl hj)
        · rw [setF_ne e] at hj; exact .inl ⟨j, hj⟩
      · exact .inr (.inr z)
    refine ⟨setF fps' i fv, g.tr.less sub, g.wf.less sub, ⟨by rw [List.length_set, List.length_set]; exact g.rs.len, fun j m e => ?_, fun j h1 h2 => ?_, fun j l a hjl hj hl => ?_⟩, g.pk.trans fun j m e => ?_, fun x m => g.rn x (List.mem_cons_of_mem _ m), fun a hl z => ?_, (List.pairwise_cons.mp g.dis).2⟩
    · by_cases ej : i = j
      · subst ej
        rw [List.getElem?_set_self hi] at e
        rcases e with e | e
        · cases e
          exact ⟨v, List.getElem?_set_self hi', by rw [setF_same' rfl]; exact g.rn _ List.mem_cons_self⟩
        · cases e
      · rw [List.getElem?_set_ne ej] at e ⊢
        rw [setF_ne (Ne.symm ej)]
        exact g.rs.rel j m e
    · by_cases ej : i = j
      · subst ej
        exact absurd (List.getElem?_set_self hi) (h1 _)
      · rw [setF_ne (Ne.symm ej)]
        refine g.rs.emp j (fun n => ?_) fun n => ?_
        · have := h1 n; rw [List.getElem?_set_ne ej] at this; exact this
        · have := h2 n; rw [List.getElem?_set_ne ej] at this; exact this
    · by_cases e1 : j = i
      · rw [setF_same' e1] at hj
        by_cases e2 : l = i
        · exact hjl (e1.trans e2.symm)
        · rw [setF_ne e2] at hl; exact g.ap a (.inl hj) ⟨l, hl⟩
      · rw [setF_ne e1] at hj
        by_cases e2 : l = i
        · rw [setF_same' e2] at hl; exact g.ap a (.inl hl) ⟨j, hj⟩
        · rw [setF_ne e2] at hl; exact g.rs.dis j l a hjl hj hl
    · have ej : i ≠ j := fun e' => by subst e'; unfold notP at hp; rw [e] at hp; exact hp
      rw [List.getElem?_set_ne ej, List.getElem?_set_ne ej]
      exact ⟨⟨m, e⟩, rfl⟩
    · obtain ⟨j, hj⟩ := z
      by_cases e : j = i
      · rw [setF_same' e] at hj; exact dl a hj hl
      · rw [setF_ne e] at hj; exact g.ap a (.inr hl) ⟨j, hj⟩
  · have hi' : ¬ i < σ'.length := by rw [← g.rs.len]; exact hi
    rw [List.set_eq_of_length_le (by omega), List.set_eq_of_length_le (by omega)]
    have sub : ∀ b, Or2 (Ow fps') (OwL L) b → Or2 (Ow fps') (OwL ((n, v, fv) :: L)) b := fun b z => z.elim .inl fun z => .inr (.inr z)
    exact ⟨fps', g.tr.less sub, g.wf.less sub, g.rs, g.pk, fun x m => g.rn x (List.mem_cons_of_mem _ m), fun a hl => g.ap a (.inr hl), (List.pairwise_cons.mp g.dis).2⟩
end
abbrev WNs := KX → En → (List N → En → Prop) → Prop
def rna (K : PySem.W.Frag) (mg : Str → Option Value) (E : EX) (w : WNs) : TA := fun σ H Q' => ∃ ρ F fps Z Q, Sta K F H ρ σ fps ∧ w Z ρ Q ∧ ZC K mg E ρ σ F H fps Z ∧
  ∀ L ρ' F' H' fps', GotL K ρ σ F H fps L ρ' σ F' H' fps' → Q (L.map (·.1)) ρ' → Q' (L.map (·.2.1)) H'
def nsNil : WNs := fun _ ρ Q => Q [] ρ
def nsCons (w : WE) (ws : WNs) : WNs := fun Z ρ Q => w Z ρ fun n ρ1 => ws Z ρ1 fun ns ρ2 => Q (n :: ns) ρ2
def setN : List Nat → List N → En → (En → Prop) → Prop
  | [], [], ρ, k => k ρ
  | i :: is, n :: ns, ρ, k => notP ρ i ∧ setN is ns (ρ.set i (.v n)) k
  | _, _, _, _ => False
def sPar (is : List Nat) (ws : WNs) : WS := fun Z D ρ => ws Z ρ fun ns ρ1 => setN is ns ρ1 D.nx
section
variable {X : Cx} {E : EX} {e : Expr} {es : List Expr} {w : WE} {ws : WNs} {pos : Pos}
theorem n_nil : PA X [] (rna X.K X.mg E nsNil) := pa_imp pa_nil fun σ H Q ⟨ρ, F, fps, Z, Qd, st, hw, zc, k⟩ => k [] _ _ _ _ (.nil (.refl st)) hw
theorem n_cons (ha : PE X e (rd X.K X.mg E w)) (hr : PA X es (rna X.K X.mg E ws)) (hs : starEach (e :: es) X.env = (false, eval e X.env) :: starEach es X.env := by rfl) : PA X (e :: es) (rna X.K X.mg E (nsCons w ws)) :=
  pa_imp (pa_cons ha hr hs) fun σ H Q ⟨ρ, F, fps, Z, Qd, st, hw, zc, k⟩ => ⟨ρ, F, fps, Z, _, st, hw, zc, fun n v ρ1 F1 H1 fps1 fv g1 h1 =>
    ⟨ρ1, F1, fps1, Z, _, g1.st, h1, zc.step g1.s, fun L ρ2 F2 H2 fps2 g2 q2 => k ((n, v, fv) :: L) _ _ _ _ (.cons g1 g2) q2⟩⟩
theorem s_par {i j : Nat} {x y : Str} {a b : Expr} {px py pt : Pos} {kt k2 pt2} (hc : X.calm = true) (hN : X.N.Nodup) (ha : PA X [a, b] (rna X.K X.mg E ws)) (hi : X.N[i]? = some x := by rfl) (hj : X.N[j]? = some y := by rfl) (hij : i ≠ j := by decide)
    (hx : X.env.scope.names.lookup x = some .local := by rfl) (hy : X.env.scope.names.lookup y = some .local := by rfl)
    (hw : swappedStores [.Tuple [.Name x px, .Name y py] kt pt] (.Tuple [a, b] k2 pt2) X.env = pure (some [x, y]) := by rfl)
    (hs : swapsWithSole [.Tuple [.Name x px, .Name y py] kt pt] (.Tuple [a, b] k2 pt2) pos.line X.env = pure false := by rfl) :
    PS X (.Assign [.Tuple [.Name x px, .Name y py] kt pt] (.Tuple [a, b] k2 pt2) pos) (rs X.K X.mg E (sPar [i, j] ws)) := ps_imp (ps_par hc hN hi hj hij hx hy ha hw hs) fun D σ H h => by
  obtain ⟨ρ, F, fps, Z, DD, st, sc, hw⟩ := rs_open h
  refine ⟨ρ, F, fps, Z, _, st, hw, sc.z, fun L ρ1 F1 H1 fps1 g q => ?_⟩
  match L, g, q with
  | [x, y], g, q =>
    obtain ⟨p1, p2, q⟩ := q
    obtain ⟨f1, g1⟩ := g.pop p1
    obtain ⟨f2, g2⟩ := g1.pop p2
    exact ⟨_, _, rfl, sc.nx g2.s q⟩
  | [], _, q => exact q.elim
  | [_], _, q => exact q.2.elim
  | _ :: _ :: _ :: _, _, q => exact q.2.2.elim
theorem s_par3 {i j l : Nat} {x y z : Str} {a b c : Expr} {px py pz pt : Pos} {kt k2 pt2} (hc : X.calm = true) (hN : X.N.Nodup) (ha : PA X [a, b, c] (rna X.K X.mg E ws)) (hi : X.N[i]? = some x := by rfl) (hj : X.N[j]? = some y := by rfl) (hl : X.N[l]? = some z := by rfl) (hij : i ≠ j := by decide) (hil : i ≠ l := by decide) (hjl : j ≠ l := by decide)
    (hx : X.env.scope.names.lookup x = some .local := by rfl) (hy : X.env.scope.names.lookup y = some .local := by rfl) (hz : X.env.scope.names.lookup z = some .local := by rfl)
    (hw : swappedStores [.Tuple [.Name x px, .Name y py, .Name z pz] kt pt] (.Tuple [a, b, c] k2 pt2) X.env = pure (some [x, y, z]) := by rfl)
    (hs : swapsWithSole [.Tuple [.Name x px, .Name y py, .Name z pz] kt pt] (.Tuple [a, b, c] k2 pt2) pos.line X.env = pure false := by rfl) :
    PS X (.Assign [.Tuple [.Name x px, .Name y py, .Name z pz] kt pt] (.Tuple [a, b, c] k2 pt2) pos) (rs X.K X.mg E (sPar [i, j, l] ws)) := ps_imp (ps_par3 hc hN hi hj hl hij hil hjl hx hy hz ha hw hs) fun D σ H h => by
  obtain ⟨ρ, F, fps, Z, DD, st, sc, hw⟩ := rs_open h
  refine ⟨ρ, F, fps, Z, _, st, hw, sc.z, fun L ρ1 F1 H1 fps1 g q => ?_⟩
  match L, g, q with
  | [x, y, z], g, q =>
    obtain ⟨p1, p2, p3, q⟩ := q
    obtain ⟨f1, g1⟩ := g.pop p1
    obtain ⟨f2, g2⟩ := g1.pop p2
    obtain ⟨f3, g3⟩ := g2.pop p3
    exact ⟨_, _, _, rfl, sc.nx g3.s q⟩
  | [], _, q => exact q.elim
  | [_], _, q => exact q.2.elim
  | [_, _], _, q => exact q.2.2.elim
  | _ :: _ :: _ :: _ :: _, _, q => exact q.2.2.2.elim
end
end DL

namespace DL
open PySem PySem.Spec PyProof.Rows L2
/-! ### an own list that changes -/
def ownL (ρ : En) (i : Nat) (k : List PyData → Prop) : Prop := match ρ[i]? with
  | some (.v (.lst ds)) => k ds
  | some (.p (.lst ds)) => k ds
  | _ => False
def putL (ρ : En) (i : Nat) (ds : List PyData) : En := match ρ[i]? with
  | some (.p _) => ρ.set i (.p (.lst ds))
  | _ => ρ.set i (.v (.lst ds))
section
variable {K : PySem.W.Frag} {mg : Str → Option Value} {E : EX} {σ σ' σ1 σ2 : Sg} {F H F' H' F1 H1 F2 H2 : Hp} {fps fps1 fps2 fps' : Nat → Addr → Prop} {O O' fv : Addr → Prop} {Z : KX} {n : N} {v : V} {ρ ρ' ρ1 ρ2 : En} {i : Nat}
theorem ownL_of {k : List PyData → Prop} (r : RelS K F H ρ σ fps) (h : ownL ρ i k) : ∃ ds a vs, (ρ[i]? = some (.v (.lst ds)) ∨ ρ[i]? = some (.p (.lst ds))) ∧ k ds ∧ σ[i]? = some (some (.ref a)) ∧ fps i = One a ∧ H a = some (.lst vs) ∧ DqAll K F vs ds := by
  unfold ownL at h
  split at h
  · rename_i ds e
    obtain ⟨v, hv, a, vs, rfl, e2, e3, q⟩ := r.rel i _ (.inl e)
    exact ⟨ds, a, vs, .inl e, h, hv, e2, e3, q⟩
  · rename_i ds e
    obtain ⟨v, hv, a, vs, rfl, e2, e3, q⟩ := r.rel i _ (.inr e)
    exact ⟨ds, a, vs, .inr e, h, hv, e2, e3, q⟩
  · exact h.elim
theorem Sta.putL {ds es : List PyData} {a : Addr} {vs ws : List V} (s : Sta K F H ρ σ fps) (h : ρ[i]? = some (.v (.lst ds)) ∨ ρ[i]? = some (.p (.lst ds))) (hv : σ[i]? = some (some (.ref a))) (hf : fps i = One a) (hH : H a = some (.lst vs)) (q : DqAll K F ws es) :
    GotS K ρ σ F H fps (putL ρ i es) σ F (upd H a (.lst ws)) fps := by
  have hi : i < ρ.length := by rcases h with h | h <;> exact (List.getElem?_eq_some_iff.mp h).1
  have oa : Ow fps a := ⟨i, by rw [hf]; rfl⟩
  have hset : ∃ c, (c = Sl.v (.lst es) ∨ c = Sl.p (.lst es)) ∧ DL.putL ρ i es = ρ.set i c ∧ ∀ n, ρ[i]? = some (.p n) → c = .p (.lst es) := by
    unfold DL.putL
    rcases h with h | h
    · rw [h]; exact ⟨_, .inl rfl, rfl, fun n e => by cases e⟩
    · rw [h]; exact ⟨_, .inr rfl, rfl, fun n e => rfl⟩
  obtain ⟨c, hc, ec, hp⟩ := hset
  rw [ec]
  refine ⟨⟨.refl _, fun b h h' => absurd h h', fun b o e no => ?_, fun b z => .inl z⟩, ⟨⟨fun b o e => ?_, s.wf.out, fun b z => ?_⟩, ⟨by rw [List.length_set]; exact s.rs.len, fun j n e => ?_, fun j h1 h2 => ?_, s.rs.dis⟩⟩, fun j n e => ⟨?_, rfl⟩⟩
  · rw [upd_ne fun z => no (by rw [z]; exact oa)]; exact e
  · have hb : b ≠ a := fun z => by subst z; rw [s.wf.out b oa] at e; cases e
    rw [upd_ne hb]; exact s.wf.sub b o e
  · by_cases hb : b = a
    · subst hb; rw [upd_same]; exact fun q => nomatch q
    · rw [upd_ne hb]; exact s.wf.dom b z
  · by_cases ej : i = j
    · subst ej
      rw [List.getElem?_set_self hi] at e
      have en : n = .lst es := by
        rcases hc with rfl | rfl <;> rcases e with e | e <;> cases e <;> rfl
      subst en
      exact ⟨.ref a, hv, a, ws, rfl, hf, upd_same, q⟩
    · rw [List.getElem?_set_ne ej] at e
      obtain ⟨v, h1, h2⟩ := s.rs.rel j n e
      exact ⟨v, h1, h2.stay (.refl _) fun b hb => upd_ne fun z => by subst z; exact s.rs.dis i j b ej (by rw [hf]; rfl) hb⟩
  · by_cases ej : i = j
    · subst ej
      rcases hc with rfl | rfl
      · exact absurd (List.getElem?_set_self hi) (h1 _)
      · exact absurd (List.getElem?_set_self hi) (h2 _)
    · refine s.rs.emp j (fun n => ?_) fun n => ?_
      · have := h1 n; rw [List.getElem?_set_ne ej] at this; exact this
      · have := h2 n; rw [List.getElem?_set_ne ej] at this; exact this
  · by_cases ej : i = j
    · subst ej; exact ⟨_, by rw [List.getElem?_set_self hi, hp n e]⟩
    · rw [List.getElem?_set_ne ej]; exact ⟨n, e⟩
end
abbrev OM := List PyData → List PyData → (PyData → List PyData → Prop) → Prop
def MtD (X : Cx) (id : String) (o : OM) : Prop := ∃ r, MtR X id r ∧ ∀ {F H a vs ds es us k Q'}, Same F H → H a = some (.lst vs) → DqAll X.K F vs ds → DqAll X.K F us es → o ds es k → (∀ d v ds' ws, Dq X.K F v d → DqAll X.K F ws ds' → k d ds' → Q' v (upd H a (.lst ws))) → r (.ref a) us H Q'
def wMt (i : Nat) (o : OM) (ws : WA) : WE := fun Z ρ Q => ownL ρ i (fun _ => True) ∧ ws Z ρ fun as ρ1 => match datas as with
  | some es => ownL ρ1 i fun ds => o ds es fun d ds' => Q (.dat d) (putL ρ1 i ds')
  | none => False
section
variable {X : Cx} {E : EX} {e : Expr} {es : List Expr} {w : WE} {ws : WA} {pos p apos cpos : Pos} {name x : Str} {id : String} {o : OM} {i : Nat}
theorem mt_road {r : V → List V → Hp → VK → Prop} (hr : ∀ {F H a vs ds es us k Q'}, Same F H → H a = some (.lst vs) → DqAll X.K F vs ds → DqAll X.K F us es → o ds es k → (∀ d v ds' ws, Dq X.K F v d → DqAll X.K F ws ds' → k d ds' → Q' v (upd H a (.lst ws))) → r (.ref a) us H Q') :
    ∀ σ H Q, rd X.K X.mg E (wMt i o ws) σ H Q → tBM X.K "list" r (tVar i) (ra X.K X.mg E ws) σ H Q := fun σ H Q ⟨ρ, F, fps, Z, Qd, st, hw, zc, k⟩ => by
  obtain ⟨h0, hw⟩ := hw
  obtain ⟨_, a, vs, _, _, hv, _, hH, _⟩ := ownL_of st.rs h0
  refine ⟨.ref a, hv, .inl ⟨rfl, vs, SqL.of hH⟩, ρ, F, fps, Z, _, st, hw, zc, fun as us ρ1 F1 H1 fps1 g rr q => ?_⟩
  cases ed : datas as with
  | none => rw [ed] at q; exact q.elim
  | some es =>
    rw [ed] at q
    obtain ⟨ds, a', vs', hρ, q, hv', hf, hH', dq⟩ := ownL_of g.st.rs q
    rw [hv] at hv'
    cases hv'
    refine hr g.st.wf.sub hH' dq (datas_rel rr ed) q fun d v ds' ws dqv dqw hk => ?_
    exact k _ _ _ _ _ _ _ (.of (g.trans (g.st.putL hρ hv hf hH' dqw)) dqv) hk
theorem d_mt (hm : MtD X id o) (slot : Slot "list" name id) (hty : typeOf (.builtin id) = pure (.type "method_descriptor")) (ho : PE X (.Name x p) (tVar i)) (ha : PA X (e :: es) (ra X.K X.mg E ws))
    (hbase : attributeBase (.Name x p) name X.env (eval (.Name x p) X.env) = eval (.Name x p) X.env := by rfl)
    (hfew : ((backTo cpos (starEach (e :: es) X.env)).all (fun x => !x.1) && (backToKw cpos (keywordEach [] X.env)).all (fun x => x.1.isSome)
      && decide ((e :: es).length + ([] : List Keyword).length + (if ([] : List Keyword).isEmpty then 0 else 1) < 30)) = true := by rfl)
    (hline : (apos.endLine == cpos.line) = true := by rfl) (hs : starEach (e :: es) X.env = (false, eval e X.env) :: starEach es X.env := by rfl) (hplain : (backTo cpos (starEach es X.env)).any (·.1) = false := by rfl) :
    PE X (.Call (.Attribute (.Name x p) name apos) (e :: es) [] cpos) (rd X.K X.mg E (wMt i o ws)) :=
  let ⟨_, h1, h2⟩ := hm
  pe_imp (pe_bm PySem.F.plainAttrs_list slot hty h1 ho ha hbase hfew hline hs hplain) (mt_road h2)
theorem d_mt0 (hm : MtD X id o) (slot : Slot "list" name id) (hty : typeOf (.builtin id) = pure (.type "method_descriptor")) (ho : PE X (.Name x p) (tVar i))
    (hbase : attributeBase (.Name x p) name X.env (eval (.Name x p) X.env) = eval (.Name x p) X.env := by rfl) (hline : (apos.endLine == cpos.line) = true := by rfl) :
    PE X (.Call (.Attribute (.Name x p) name apos) [] [] cpos) (rd X.K X.mg E (wMt i o aNil)) :=
  let ⟨_, h1, h2⟩ := hm
  pe_imp (pe_bm0 PySem.F.plainAttrs_list slot hty h1 ho hbase hline) fun σ H Q ⟨ρ, F, fps, Z, Qd, st, hw, zc, k⟩ => by
    obtain ⟨h0, hw⟩ := hw
    obtain ⟨_, a, vs, _, _, hv, _, hH, _⟩ := ownL_of st.rs h0
    refine ⟨.ref a, hv, .inl ⟨rfl, vs, SqL.of hH⟩, ?_⟩
    have q : ownL ρ i fun ds => o ds [] fun d ds' => Qd (.dat d) (putL ρ i ds') := hw
    obtain ⟨ds, a', vs', hρ, q, hv', hf, hH', dq⟩ := ownL_of st.rs q
    rw [hv] at hv'
    cases hv'
    refine h2 st.wf.sub hH' dq .nil q fun d v ds' ws dqv dqw hk => ?_
    exact k _ _ _ _ _ _ _ (.of (st.putL hρ hv hf hH' dqw) dqv) hk
/-! the methods -/
def mApp : OM := fun ds es k => match es with
  | [d] => ds.length < 100000 ∧ k .none (ds ++ [d])
  | _ => False
theorem m_app : MtD X "list.append" mApp := ⟨_, mt_append, fun {F H a vs ds es us k Q'} s hH q r ho go => by
  cases r with
  | nil => exact ho.elim
  | cons r rr =>
    cases rr with
    | cons => exact ho.elim
    | nil => exact ⟨a, vs, _, rfl, rfl, hH, by rw [q.length]; exact Nat.lt_of_lt_of_le ho.1 (by decide), go _ _ _ _ .non (q.append (.cons r .nil)) ho.2⟩⟩
def mExt : OM := fun ds es k => match es with
  | [.list xs] => ds.length + xs.length ≤ 100000 ∧ k .none (ds ++ xs)
  | _ => False
theorem m_ext : MtD X "list.extend" mExt := ⟨_, mt_extend, fun {F H a vs ds es us k Q'} s hH q r ho go => by
  cases r with
  | nil => exact ho.elim
  | @cons v us d es r rr =>
    cases rr with
    | cons => cases d <;> exact ho.elim
    | nil =>
      cases d with
      | list xs =>
        obtain ⟨b, ws, rfl, h2, t⟩ := lstH s (.d r)
        exact ⟨a, b, vs, ws, rfl, rfl, hH, h2, by rw [q.length, t.length]; exact sz5 ho.1, go _ _ _ _ .non (q.append t) ho.2⟩
      | _ => exact ho.elim⟩
def mPop : OM := fun ds es k => es = [] ∧ match ds[ds.length - 1]? with
  | some d => k d ds.dropLast
  | none => False
theorem m_pop : MtD X "list.pop" mPop := ⟨_, mt_pop, fun {F H a vs ds es us k Q'} s hH q r ho go => by
  obtain ⟨rfl, ho⟩ := ho
  cases r
  split at ho
  · rename_i d e
    obtain ⟨v, ev, dq⟩ := q.getD e
    exact ⟨a, vs, v, rfl, rfl, hH, by rw [q.length]; exact ev, go _ _ _ _ dq q.dropLast ho⟩
  · exact ho.elim⟩
def mPopAt : OM := fun ds es k => match es with
  | [.int j] => (-1000000 ≤ j ∧ j ≤ 1000000) ∧ (match ixN ds.length j with
    | some m => (match ds[m]? with
      | some d => k d (ds.eraseIdx m)
      | none => False)
    | none => False)
  | _ => False
theorem m_popAt : MtD X "list.pop" mPopAt := ⟨_, mt_popAt, fun {F H a vs ds es us k Q'} s hH q r ho go => by
  cases r with
  | nil => exact ho.elim
  | @cons v us d es r rr =>
    cases rr with
    | cons => cases d <;> exact ho.elim
    | nil =>
      cases d with
      | int j =>
        cases r
        obtain ⟨hj, ho⟩ := ho
        split at ho
        · rename_i m em
          split at ho
          · rename_i d e
            obtain ⟨v, ev, dq⟩ := q.getD e
            rw [← q.length] at em
            exact ⟨a, vs, j, m, v, rfl, rfl, hH, by omega, by omega, (ixN_seq em).1, ev, go _ _ _ _ dq (q.eraseIdx m) ho⟩
          · exact ho.elim
        · exact ho.elim
      | _ => exact ho.elim⟩
def mIns : OM := fun ds es k => match es with
  | [.int j, d] => (0 ≤ j ∧ j ≤ 1000000 ∧ ds.length < 100000) ∧ k .none (ds.take j.toNat ++ [d] ++ ds.drop j.toNat)
  | _ => False
theorem m_ins : MtD X "list.insert" mIns := ⟨_, mt_insert, fun {F H a vs ds es us k Q'} s hH q r ho go => by
  cases r with
  | nil => exact ho.elim
  | @cons v us d es r rr =>
    cases rr with
    | nil => cases d <;> exact ho.elim
    | @cons v' us d' es r' rr =>
      cases rr with
      | cons => cases d <;> exact ho.elim
      | nil =>
        cases d with
        | int j =>
          cases r
          obtain ⟨hj, ho⟩ := ho
          exact ⟨a, vs, j, _, rfl, rfl, hH, by rw [q.length]; exact Nat.lt_of_lt_of_le hj.2.2 (by decide), by omega, by omega, go _ _ _ _ .non (((q.take _).append (.cons r' .nil)).append (q.drop _)) ho⟩
        | _ => exact ho.elim⟩
def mRev : OM := fun ds es k => es = [] ∧ k .none ds.reverse
theorem m_rev : MtD X "list.reverse" mRev := ⟨_, mt_reverse, fun {F H a vs ds es us k Q'} s hH q r ho go => by
  obtain ⟨rfl, ho⟩ := ho
  cases r
  exact ⟨a, vs, rfl, rfl, hH, go _ _ _ _ .non q.reverse ho⟩⟩
def mClr : OM := fun ds es k => es = [] ∧ k .none []
theorem m_clr : MtD X "list.clear" mClr := ⟨_, mt_clear, fun {F H a vs ds es us k Q'} s hH q r ho go => by
  obtain ⟨rfl, ho⟩ := ho
  cases r
  exact ⟨a, vs, rfl, rfl, hH, go _ _ _ _ .non .nil ho⟩⟩
/-! v[i] = .. -/
def gSb (i : Nat) (wi : WX) : WG := fun d ρ k => ownL ρ i (fun _ => True) ∧ wi Z0 ρ fun a ρ1 => lkD ρ1 a fun y => ownL ρ1 i fun ds => match y with
  | .int j => (match ixN ds.length j with
    | some m => k (putL ρ1 i (ds.set m d))
    | none => False)
  | _ => False
theorem g_sub {is : List Nat} {ie : Expr} {wi : WX} (ho : PE X (.Name x p) (tVar i)) (hi : PE X ie (rx X.K X.mg E wi))
    (ha : ∀ v, assign (.Subscript (.Name x p) ie pos) X.env v = (do
      let ov ← holding [v] (eval (.Name x p) X.env)
      let iv ← holding [v, ov] (eval ie X.env)
      standAt pos
      holding [v, ov, iv] (setItem ov iv v)
      release [v, ov, iv] []) := by intro _; rfl) : PG X (.Subscript (.Name x p) ie pos) (rg X.K is (gSb i wi)) :=
  pg_imp (pg_sub ho hi set_list ha) fun v σ H Q ⟨ρ, F, fps, d, Qd, st, dq, hw, k⟩ => by
    obtain ⟨h0, hw⟩ := hw
    obtain ⟨_, a, vs, _, _, hv, _, hH, _⟩ := ownL_of st.rs h0
    refine ⟨.ref a, hv, ρ, F, fps, Z0, _, st, hw, ZC0, fun ar u ρ1 F1 H1 fps1 g1 q1 h1 => ?_⟩
    obtain ⟨y, h2, l⟩ := lk_rel g1.st.rs q1 h1
    obtain ⟨ds, a', vs', hρ, q, hv', hf, hH', dq'⟩ := ownL_of g1.st.rs h2
    rw [hv] at hv'
    cases hv'
    cases y with
    | int j =>
      obtain rfl := l.int
      have q : (match ixN ds.length j with
        | some m => Qd (putL ρ1 i (ds.set m d))
        | none => False) := q
      split at q
      · rename_i m em
        exact ⟨a, vs', j, m, rfl, rfl, hH', by rw [dq'.length]; exact em, k _ _ _ _ _ (g1.trans (g1.st.putL hρ hv hf hH' (dq'.set (dq.mono g1.tr.grow) m))) ⟨rfl, fun _ _ => rfl⟩ q⟩
      · exact q.elim
    | _ => exact q.elim
end
end DL

namespace DL
open PySem PySem.Spec PyProof.Rows L2
/-! ### built-ins over data -/
def lks (ρ : En) : List Ar → (List PyData → Prop) → Prop
  | [], k => k []
  | a :: as, k => lkD ρ a fun d => lks ρ as fun ds => k (d :: ds)
inductive LkAll (K : PySem.W.Frag) (F H : Hp) : List V → List PyData → Prop
  | nil : LkAll K F H [] []
  | cons {v : V} {vs : List V} {d : PyData} {ds : List PyData} : Lk K F H v d → LkAll K F H vs ds → LkAll K F H (v :: vs) (d :: ds)
section
variable {K : PySem.W.Frag} {F F' H : Hp} {ρ : En} {σ : Sg} {fps : Nat → Addr → Prop}
theorem lks_rel (r : RelS K F H ρ σ fps) : ∀ {as : List Ar} {vs : List V} {k : List PyData → Prop}, RelAr K F σ as vs → lks ρ as k → ∃ ds, k ds ∧ LkAll K F H vs ds
  | _, _, _, .nil, h => ⟨[], h, .nil⟩
  | _, _, _, .cons ra t, h => by
    obtain ⟨d, h1, l⟩ := lk_rel r ra h
    obtain ⟨ds, h2, ls⟩ := lks_rel r t h1
    exact ⟨d :: ds, h2, .cons l ls⟩
theorem LkAll.mono (s : Same F F') : ∀ {vs : List V} {ds : List PyData}, LkAll K F H vs ds → LkAll K F' H vs ds
  | _, _, .nil => .nil
  | _, _, .cons q t => .cons (q.mono s) (LkAll.mono s t)
theorem LkAll.fz : ∀ {vs : List V} {ds : List PyData} {F : Hp}, Same F H → LkAll K F H vs ds → ∃ F', Same F F' ∧ Same F' H ∧ DqAll K F' vs ds
  | _, _, _, s, .nil => ⟨_, .refl _, s, .nil⟩
  | _, _, _, s, .cons q t => by
    obtain ⟨F1, a1, a2, a3⟩ := q.fz s
    obtain ⟨F2, b1, b2, b3⟩ := LkAll.fz a2 (t.mono a1)
    exact ⟨F2, a1.trans b1, b2, .cons (a3.mono b1) b3⟩
end
abbrev OB := List PyData → (N → Prop) → Prop
def BD (X : Cx) (f : Value) (o : OB) : Prop := ∃ r, CallR X f r ∧ ∀ {F H ds vs k Q'}, Same F H → LkAll X.K F H vs ds → o ds k → (∀ n v F' H' fv, Grow X.K F H n v F' H' fv → k n → Q' v H') → r vs H Q'
def oB (o : OB) : OA := fun ρ as k => lks ρ as fun ds => o ds k
theorem bd_call {X : Cx} {f : Value} {o : OB} (h : BD X f o) : CallD X f (oB o) :=
  let ⟨_, h1, h2⟩ := h
  ⟨_, h1, fun st ra ho go => by
    obtain ⟨ds, q, l⟩ := lks_rel st.rs ra ho
    exact h2 st.wf.sub l q go⟩
/-- by a rule over data: the result is a scalar (it names nothing) -/
theorem BD.sc {X : Cx} {f : Value} {o : OB} (h : ∀ (pins : List (Addr × Obj)) (s : Shared) (σ : Sg) (F H : Hp) (vs : List V) (us : List Value) (ds : List PyData) (k : N → Prop) (Q : VK), Inv X pins σ H s → Vals vs us → Same F H → DqAll X.K F vs ds → o ds k →
    (∀ b, k (.dat (.bool b)) → Q (.bl b) H) → (∀ i, k (.dat (.int i)) → Q (.int i) H) → (∀ z, k (.dat (.str z)) → Q (.str z) H) → wpAny (model X.prog X.w) X.A (call f us) (EP X pins σ Q) X.xe s) : BD X f o :=
  ⟨fun vs H Q => ∃ F ds k, Same F H ∧ DqAll X.K F vs ds ∧ o ds k ∧ (∀ b, k (.dat (.bool b)) → Q (.bl b) H) ∧ (∀ i, k (.dat (.int i)) → Q (.int i) H) ∧ (∀ z, k (.dat (.str z)) → Q (.str z) H),
    fun pins s σ H vs us Q I r ⟨F, ds, k, sf, q, ho, g1, g2, g3⟩ => h pins s σ F H vs us ds k Q I r sf q ho g1 g2 g3,
    fun {F H ds vs k Q'} s l ho go => by
      obtain ⟨F', _, s', q⟩ := l.fz s
      exact ⟨F', ds, k, s', q, ho, fun b hb => go _ _ _ _ _ .datB hb, fun i hi => go _ _ _ _ _ .datI hi, fun z hz => go _ _ _ _ _ (.dat (.str z)) hz⟩⟩
section
variable {X : Cx}
/-- what may be shown -/
def repOk (d : PyData) : Prop := d.showable = true ∧ (d.hasDict = false ∨ noL d = true) ∧ d.depth ≤ 100 ∧ d.shown.length ≤ sizeLine
def bRepr : OB := fun ds k => match ds with
  | [.list xs] => repOk (.list xs) ∧ k (.dat (.str (PyData.list xs).shown))
  | [.tuple xs] => repOk (.tuple xs) ∧ k (.dat (.str (PyData.tuple xs).shown))
  | [.int i] => i.natAbs.log2 < 1920 ∧ k (.dat (.str (PyData.int i).shown))
  | [.bool b] => k (.dat (.str (PyData.bool b).shown))
  | [.none] => k (.dat (.str (PyData.none).shown))
  | [.str z] => (PyData.str z).shown.length ≤ sizeLine ∧ k (.dat (.str (PyData.str z).shown))
  | [.dict kvs] => repOk (.dict kvs) ∧ k (.dat (.str (PyData.dict kvs).shown))
  | _ => False
theorem bd_repr (hg : X.A.guards = some []) (hu : X.A.units + 101 < cLine) : BD X (.builtin "repr") bRepr := BD.sc fun pins s σ F H vs us ds k Q I r sf q ho g1 g2 g3 => by
  have seq : ∀ (xs : List PyData) (d : PyData) (a : Addr) (v : V), v = .ref a → Dq X.K F v d → repOk d → k (.dat (.str d.shown)) → ∀ u, RelV v u → wpAny (model X.prog X.w) X.A (call (.builtin "repr") [u]) (EP X pins σ Q) X.xe s := fun xs d a v ev dq rk hk u ru => by
    subst ev
    obtain ⟨as, rd, na⟩ := Dq.reads' I sf dq u ru
    cases ru
    obtain ⟨h1, h2, h3, h4⟩ := rk
    exact repr_of_reads' rd h1 (fun z => h2.elim (fun e => by rw [e] at z; cases z) na) hg (by omega) (fun _ _ e => e) (fun h' u tk hk' => ⟨.str _, H, I.kept hk', ⟨_, rfl⟩, g3 _ hk⟩) h4
  unfold bRepr at ho
  split at ho
  · cases q with
    | cons q t =>
      cases t
      obtain ⟨u, rfl, ru⟩ := r.one
      obtain ⟨a, _, rfl, _, _⟩ := lstH sf (.d q)
      exact seq [] _ a _ rfl q ho.1 ho.2 u ru
  · cases q with
    | cons q t =>
      cases t
      obtain ⟨u, rfl, ru⟩ := r.one
      obtain ⟨a, _, rfl, _, _⟩ := tupH sf (.d q)
      exact seq [] _ a _ rfl q ho.1 ho.2 u ru
  · cases q with
    | cons q t =>
      cases t
      cases q
      obtain ⟨u, rfl, tk, rfl⟩ := r.one
      exact PySem.P.repr_of_int ho.1 ⟨.str _, H, I.tok _, ⟨_, rfl⟩, g3 _ ho.2⟩
  · cases q with
    | cons q t =>
      cases t
      cases q
      obtain ⟨u, rfl, ru⟩ := r.one
      cases ru
      exact PySem.P.repr_of_bool ⟨.str _, H, I.tok _, ⟨_, rfl⟩, g3 _ ho⟩
  · cases q with
    | cons q t =>
      cases t
      cases q
      obtain ⟨u, rfl, ru⟩ := r.one
      cases ru
      exact PySem.P.repr_of_none ⟨.str _, H, I.tok _, ⟨_, rfl⟩, g3 _ ho⟩
  · cases q with
    | cons q t =>
      cases t
      cases q
      obtain ⟨u, rfl, tk, rfl⟩ := r.one
      exact PySem.P.repr_of_str ⟨.str _, H, I.tok _, ⟨_, rfl⟩, g3 _ ho.2⟩ ho.1
  · cases q with
    | cons q t =>
      cases t
      obtain ⟨u, rfl, ru⟩ := r.one
      cases q with
      | dK h1 h2 h3 h4 => exact seq [] _ _ _ rfl (.dK h1 h2 h3 h4) ho.1 ho.2 u ru
      | dT h1 h2 h3 h4 => exact seq [] _ _ _ rfl (.dT h1 h2 h3 h4) ho.1 ho.2 u ru
  · exact ho.elim
end
end DL

namespace DL
open PySem PySem.Spec PyProof.Rows L2
section
variable {X : Cx}
def bLen : OB := fun ds k => match ds with
  | [.list xs] => k (.dat (.int xs.length))
  | [.tuple xs] => k (.dat (.int xs.length))
  | [.str z] => z.length ≤ 100000 ∧ k (.dat (.int z.length))
  | _ => False
theorem lk1 {K : PySem.W.Frag} {F H : Hp} {vs : List V} {d : PyData} (l : LkAll K F H vs [d]) : ∃ v, vs = [v] ∧ Lk K F H v d := by
  cases l with
  | cons q t => cases t; exact ⟨_, rfl, q⟩
theorem lk2 {K : PySem.W.Frag} {F H : Hp} {vs : List V} {d e : PyData} (l : LkAll K F H vs [d, e]) : ∃ v u, vs = [v, u] ∧ Lk K F H v d ∧ Lk K F H u e := by
  cases l with
  | cons q t =>
    obtain ⟨u, rfl, q'⟩ := lk1 t
    exact ⟨_, _, rfl, q, q'⟩
theorem bd_len : BD X (.builtin "len") bLen := ⟨_, call_len_seq.or call_len_str, fun {F H ds vs k Q'} s l ho go => by
  unfold bLen at ho
  split at ho
  · obtain ⟨v, rfl, q⟩ := lk1 l
    obtain ⟨a, xs, rfl, h, t⟩ := lstH s q
    exact .inl ⟨a, xs, rfl, .inl (SqL.of h), by rw [t.length]; exact go _ _ _ _ _ .datI ho⟩
  · obtain ⟨v, rfl, q⟩ := lk1 l
    obtain ⟨a, xs, rfl, _, h, t⟩ := tupH s q
    exact .inl ⟨a, xs, rfl, .inr h, by rw [t.length]; exact go _ _ _ _ _ .datI ho⟩
  · obtain ⟨v, rfl, q⟩ := lk1 l
    cases q with
    | d q => cases q; exact .inr ⟨_, rfl, sz5 ho.1, go _ _ _ _ _ .datI ho.2⟩
  · exact ho.elim⟩
def bTup : OB := fun ds k => match ds with
  | [.list xs] => k (.dat (.tuple xs))
  | [.tuple xs] => k (.dat (.tuple xs))
  | _ => False
theorem bd_tup : BD X (.type "tuple") bTup := ⟨_, call_tuple_ofB, fun {F H ds vs k Q'} s l ho go => by
  unfold bTup at ho
  split at ho
  · obtain ⟨v, rfl, q⟩ := lk1 l
    obtain ⟨a, xs, rfl, h, t⟩ := lstH s q
    exact ⟨a, xs, rfl, .inl ⟨SqL.of h, fun p o ho2 hp => go _ _ _ _ _ (.tup hp ho2 t) ho⟩⟩
  · obtain ⟨v, rfl, q⟩ := lk1 l
    obtain ⟨a, xs, rfl, _, h, t⟩ := tupH s q
    exact ⟨a, xs, rfl, .inr ⟨h, go _ _ _ _ _ (.dat q.tupD) ho⟩⟩
  · exact ho.elim⟩
def bLst : OB := fun ds k => match ds with
  | [.list xs] => k (.lst xs)
  | [.tuple xs] => k (.lst xs)
  | _ => False
theorem bd_lst : BD X (.type "list") bLst := ⟨_, call_list_of, fun {F H ds vs k Q'} s l ho go => by
  unfold bLst at ho
  split at ho
  · obtain ⟨v, rfl, q⟩ := lk1 l
    obtain ⟨a, xs, rfl, h, t⟩ := lstH s q
    exact ⟨a, xs, rfl, .inl (SqL.of h), fun p hp => go _ _ _ _ _ (.lst hp t) ho⟩
  · obtain ⟨v, rfl, q⟩ := lk1 l
    obtain ⟨a, xs, rfl, _, h, t⟩ := tupH s q
    exact ⟨a, xs, rfl, .inr h, fun p hp => go _ _ _ _ _ (.lst hp t) ho⟩
  · exact ho.elim⟩
/-- all are ints -/
def intsD (ds : List PyData) (k : List Int → Prop) : Prop := ∃ ns : List Int, ds = ns.map .int ∧ k ns
theorem sum_intTupG {prog : Program} {w : World} {A : Around} {E : Value → Shared → Prop} {s : Shared} {l : Addr} {xs : Array (Int × Tok)} {Q : Value → Shared → Prop} (hh : A.handled = none) (hl : s.heap.IsTuple l (intItems xs))
    (h : ∀ h' tk t', (∀ b o, s.heap.get? b = some o → h'.get? b = some o) → Q (.int (preSum (numAt xs) xs.size) t') { s with heap := h', toks := tk }) :
    wpAny (model prog w) A (PySem.call (.builtin "sum") [.ref l]) Q E s := by
  have hlt : l < s.heap.objs.size := by obtain ⟨_, e, _⟩ := hl; exact Heap.lt_size e
  refine call_sum_walkG (wpAny_pyIter_tuple hl ?_)
  refine ⟨_, _, _, _, _, _, numAt xs, rfl, Walks.tuple (A := A.in1) hh _ l (Nat.ne_of_lt hlt) (intItems xs), ⟨⟨_, Heap.get?_push_size _ rfl, rfl, rfl⟩, hl.push _⟩, fun b hb => ?_, (fun _ _ => intItems_at), fun h' tk t' hk => ?_⟩
  · show b < (s.heap.push _).objs.size
    rw [Heap.size_push]
    rcases List.mem_cons.mp hb with rfl | hb
    · exact Nat.lt_succ_self _
    · rcases List.mem_cons.mp hb with rfl | hb
      · exact Nat.lt_succ_of_lt hlt
      · cases hb
  · have := h h' tk t' (fun b o e => hk b o (fun hb => absurd (Heap.lt_size e) ((List.mem_singleton.mp hb) ▸ Nat.lt_irrefl _)) (Heap.get?_push_of_some _ e))
    simpa [intItems] using this
theorem sum_rawT {prog : Program} {w : World} {A : Around} {E : Value → Shared → Prop} {s : Shared} {l : Addr} {its : List Value} {ns : List Int} {Q : Value → Shared → Prop} (hh : A.handled = none) (hl : s.heap.IsTuple l its.toArray) (hi : IntsAre its ns)
    (h : ∀ h' tk t', (∀ b o, s.heap.get? b = some o → h'.get? b = some o) → Q (.int ns.sum t') { s with heap := h', toks := tk }) : wpAny (model prog w) A (PySem.call (.builtin "sum") [.ref l]) Q E s := by
  obtain ⟨xs, e⟩ := hi.allInts.items
  have hn : numsOf (intItems xs).toList = ns := by rw [← e]; exact hi.numsOf
  rw [nums_intItems] at hn
  rw [e] at hl
  refine sum_intTupG hh hl fun h' tk t' hk => ?_
  have := h h' tk t' hk
  rw [preSum_eq, List.take_of_length_le (by simp), hn]; exact this
def bSum : OB := fun ds k => match ds with
  | [.list xs] => intsD xs fun ns => k (.dat (.int ns.sum))
  | [.tuple xs] => intsD xs fun ns => k (.dat (.int ns.sum))
  | _ => False
theorem call_sumB (hc : X.calm = true) : CallR X (.builtin "sum") (fun vs H Q => ∃ (a : Addr) (ns : List Int), vs = [V.ref a] ∧ (SqL X.K H a (ns.map V.int) ∨ SqT X.K H a (ns.map V.int)) ∧ Q (.int ns.sum) H) := by
  intro pins s σ H vs us Q I r h
  obtain ⟨a, ns, rfl, hs, q⟩ := h
  rw [Vals.ref1 r]
  rcases hs with hs | hs
  · obtain ⟨its, rv, hl, _⟩ := I.list hs
    exact sum_raw (I.ok.hd hc) hl.isList rv.ints fun h' tk t' hk => ⟨.int _, H, I.kept hk, ⟨_, rfl⟩, q⟩
  · obtain ⟨its, rv, hl, _⟩ := I.tuple hs
    exact sum_rawT (I.ok.hd hc) hl rv.ints fun h' tk t' hk => ⟨.int _, H, I.kept hk, ⟨_, rfl⟩, q⟩
theorem bd_sum (hc : X.calm = true) : BD X (.builtin "sum") bSum := ⟨_, call_sumB hc, fun {F H ds vs k Q'} s l ho go => by
  unfold bSum at ho
  split at ho
  · obtain ⟨v, rfl, q⟩ := lk1 l
    obtain ⟨a, xs, rfl, h, t⟩ := lstH s q
    obtain ⟨ns, rfl, ho⟩ := ho
    rw [t.ints] at h
    exact ⟨a, ns, rfl, .inl (SqL.of h), go _ _ _ _ _ .datI ho⟩
  · obtain ⟨v, rfl, q⟩ := lk1 l
    obtain ⟨a, xs, rfl, _, h, t⟩ := tupH s q
    obtain ⟨ns, rfl, ho⟩ := ho
    rw [t.ints] at h
    exact ⟨a, ns, rfl, .inr h, go _ _ _ _ _ .datI ho⟩
  · exact ho.elim⟩
def bAbs : OB := fun ds k => match ds with
  | [.int i] => k (.dat (.int (if i < 0 then -i else i)))
  | _ => False
theorem bd_abs : BD X (.builtin "abs") bAbs := ⟨_, call_abs, fun {F H ds vs k Q'} s l ho go => by
  unfold bAbs at ho
  split at ho
  · obtain ⟨v, rfl, q⟩ := lk1 l
    obtain rfl := q.int
    exact ⟨_, rfl, go _ _ _ _ _ .datI ho⟩
  · exact ho.elim⟩
def bInt : OB := fun ds k => match ds with
  | [.int i] => k (.dat (.int i))
  | [.bool b] => k (.dat (.int (if b = true then 1 else 0)))
  | _ => False
theorem Lk.bl {K : PySem.W.Frag} {F H : Hp} {v : V} {b : Bool} (h : Lk K F H v (.bool b)) : v = .bl b := by
  cases h with
  | d q => cases q; rfl
theorem bd_int : BD X (.type "int") bInt := ⟨_, call_int1, fun {F H ds vs k Q'} s l ho go => by
  unfold bInt at ho
  split at ho
  · obtain ⟨v, rfl, q⟩ := lk1 l
    obtain rfl := q.int
    exact .inl ⟨_, rfl, go _ _ _ _ _ .datI ho⟩
  · obtain ⟨v, rfl, q⟩ := lk1 l
    obtain rfl := q.bl
    exact .inr ⟨_, rfl, go _ _ _ _ _ .datI ho⟩
  · exact ho.elim⟩
/-! any, all -/
def plainB (xs : List PyData) : Prop := PyData.plainAll xs = true ∧ ∀ x ∈ xs, x.fits63
def bAny : OB := fun ds k => match ds with
  | [.list xs] => plainB xs ∧ k (.dat (.bool (xs.any PyData.truthy)))
  | [.tuple xs] => plainB xs ∧ k (.dat (.bool (xs.any PyData.truthy)))
  | _ => False
def bAll : OB := fun ds k => match ds with
  | [.list xs] => plainB xs ∧ k (.dat (.bool (xs.all PyData.truthy)))
  | [.tuple xs] => plainB xs ∧ k (.dat (.bool (xs.all PyData.truthy)))
  | _ => False
/-- a list's or a tuple's items, read -/
theorem rd_list {pins : List (Addr × Obj)} {s : Shared} {σ : Sg} {H F : Hp} {a : Addr} {xs : List V} {ds : List PyData} (I : Inv X pins σ H s) (sf : Same F H) (h : H a = some (.lst xs)) (t : DqAll X.K F xs ds) : ∃ its : List Value, Vals xs its ∧ s.heap.IsList a its.toArray ∧ (∃ as, ReadsAll s.heap its ds as) ∧ xs.length ≤ sizeLine := by
  obtain ⟨its, rv, p, hz⟩ := I.list (SqL.of h)
  exact ⟨its, rv, p.isList, Dq.readsAll I sf ds _ its t rv, hz⟩
theorem rd_tup {pins : List (Addr × Obj)} {s : Shared} {σ : Sg} {H F : Hp} {a : Addr} {xs : List V} {ds : List PyData} (I : Inv X pins σ H s) (sf : Same F H) (h : SqT X.K H a xs) (t : DqAll X.K F xs ds) : ∃ its : List Value, Vals xs its ∧ s.heap.IsTuple a its.toArray ∧ (∃ as, ReadsAll s.heap its ds as) ∧ xs.length ≤ sizeLine := by
  obtain ⟨its, rv, p, hz⟩ := I.tuple h
  exact ⟨its, rv, p, Dq.readsAll I sf ds _ its t rv, hz⟩
theorem bd_any (hc : X.calm = true) : BD X (.builtin "any") bAny := BD.sc fun pins s σ F H vs us ds k Q I r sf q ho g1 g2 g3 => by
  unfold bAny at ho
  split at ho
  · cases q with
    | cons q t =>
      cases t
      obtain ⟨u, rfl, ru⟩ := r.one
      obtain ⟨a, xs, rfl, h, t⟩ := lstH sf (.d q)
      cases ru
      obtain ⟨its, rv, il, ⟨as, ra⟩, _⟩ := rd_list I sf h t
      exact PySem.W.any_list_data (I.ok.hd hc) il ra ho.1.1 ho.1.2 fun h' tk hk => ⟨.bl _, H, I.kept hk, rfl, g1 _ ho.2⟩
  · cases q with
    | cons q t =>
      cases t
      obtain ⟨u, rfl, ru⟩ := r.one
      obtain ⟨a, xs, rfl, _, h, t⟩ := tupH sf (.d q)
      cases ru
      obtain ⟨its, rv, il, ⟨as, ra⟩, _⟩ := rd_tup I sf h t
      exact PySem.W.any_tuple_data (I.ok.hd hc) il ra ho.1.1 ho.1.2 fun h' tk hk => ⟨.bl _, H, I.kept hk, rfl, g1 _ ho.2⟩
  · exact ho.elim
theorem bd_all (hc : X.calm = true) : BD X (.builtin "all") bAll := BD.sc fun pins s σ F H vs us ds k Q I r sf q ho g1 g2 g3 => by
  unfold bAll at ho
  split at ho
  · cases q with
    | cons q t =>
      cases t
      obtain ⟨u, rfl, ru⟩ := r.one
      obtain ⟨a, xs, rfl, h, t⟩ := lstH sf (.d q)
      cases ru
      obtain ⟨its, rv, il, ⟨as, ra⟩, _⟩ := rd_list I sf h t
      exact PySem.W.all_list_data (I.ok.hd hc) il ra ho.1.1 ho.1.2 fun h' tk hk => ⟨.bl _, H, I.kept hk, rfl, g1 _ ho.2⟩
  · cases q with
    | cons q t =>
      cases t
      obtain ⟨u, rfl, ru⟩ := r.one
      obtain ⟨a, xs, rfl, _, h, t⟩ := tupH sf (.d q)
      cases ru
      obtain ⟨its, rv, il, ⟨as, ra⟩, _⟩ := rd_tup I sf h t
      exact PySem.W.all_tuple_data (I.ok.hd hc) il ra ho.1.1 ho.1.2 fun h' tk hk => ⟨.bl _, H, I.kept hk, rfl, g1 _ ho.2⟩
  · exact ho.elim
/-! min, max -/
/-- all can be put in order -/
def ordOk (xs : List PyData) : Prop := PySem.W.AlikeAll xs ∧ PyData.depthAll xs ≤ 50
/-- a rule over data whose result is one of the values read -/
theorem bd_mm {f : Value} {lt : PyData → List PyData → PyData} {P : List PyData → Prop}
    (hl : ∀ (A : Around) (s : Shared) (l : Addr) (vs : Array Value) (x : PyData) (xs : List PyData) (as : List Addr) (Q : Value → Shared → Prop) (E : Value → Shared → Prop), A = X.A → A.handled = none → s.heap.IsList l vs → ReadsAll s.heap vs.toList (x :: xs) as → ordOk (x :: xs) →
      (∀ (i : Nat) v h' tk bs, vs[i]? = some v → Reads h' v (lt x xs) bs → (∀ b o, s.heap.get? b = some o → h'.get? b = some o) → Q v { s with heap := h', toks := tk }) → wpAny (model X.prog X.w) A (PySem.call f [.ref l]) Q E s)
    (ht : ∀ (A : Around) (s : Shared) (l : Addr) (vs : Array Value) (x : PyData) (xs : List PyData) (as : List Addr) (Q : Value → Shared → Prop) (E : Value → Shared → Prop), A = X.A → A.handled = none → s.heap.IsTuple l vs → ReadsAll s.heap vs.toList (x :: xs) as → ordOk (x :: xs) →
      (∀ (i : Nat) v h' tk bs, vs[i]? = some v → Reads h' v (lt x xs) bs → (∀ b o, s.heap.get? b = some o → h'.get? b = some o) → Q v { s with heap := h', toks := tk }) → wpAny (model X.prog X.w) A (PySem.call f [.ref l]) Q E s) (hc : X.calm = true) :
    BD X f fun ds k => match ds with
      | [.list (x :: xs)] => ordOk (x :: xs) ∧ k (.dat (lt x xs))
      | [.tuple (x :: xs)] => ordOk (x :: xs) ∧ k (.dat (lt x xs))
      | _ => False := by
  refine ⟨fun vs H Q => ∃ F a xs x ds, vs = [.ref a] ∧ Same F H ∧ DqAll X.K F xs (x :: ds) ∧ ordOk (x :: ds) ∧ (H a = some (.lst xs) ∨ SqT X.K H a xs) ∧ (∀ v, Dq X.K F v (lt x ds) → Q v H), ?_, ?_⟩
  · rintro pins s σ H vs us Q I r ⟨F, a, xs, x, ds, rfl, sf, t, hok, hh, q⟩
    obtain ⟨u, rfl, ru⟩ := r.one
    cases ru
    have fin : ∀ (its : List Value), Vals xs its → (∃ as, ReadsAll s.heap its (x :: ds) as) → ∀ (i : Nat) v h' tk bs, its.toArray[i]? = some v → Reads h' v (lt x ds) bs → (∀ b o, s.heap.get? b = some o → h'.get? b = some o) → EP X pins σ Q v { s with heap := h', toks := tk } := fun its rv _ i v h' tk bs hi hr hk => by
      have hi' : its[i]? = some v := by simpa using hi
      obtain ⟨xv, hx, rx⟩ : ∃ xv, xs[i]? = some xv ∧ RelV xv v := by
        have hlt : i < xs.length := by rw [rv.length]; exact (List.getElem?_eq_some_iff.mp hi').1
        obtain ⟨u, hu, ru⟩ := rv.get (List.getElem?_eq_getElem hlt)
        rw [hi'] at hu
        cases hu
        exact ⟨_, List.getElem?_eq_getElem hlt, ru⟩
      obtain ⟨d, hd, dq⟩ := t.get hx
      have I' : Inv X pins σ H { s with heap := h', toks := tk } := I.kept hk
      obtain ⟨as, rd⟩ := Dq.reads I' sf d xv v dq rx
      have e := (reads_det (fun b o e _ => e) hr rd).1
      subst e
      exact ⟨xv, H, I', rx, q _ dq⟩
    rcases hh with h | h
    · obtain ⟨its, rv, il, ⟨as, ra⟩, _⟩ := rd_list I sf h t
      exact hl X.A s a its.toArray x ds as _ _ rfl (I.ok.hd hc) il ra hok (fin its rv ⟨as, ra⟩)
    · obtain ⟨its, rv, il, ⟨as, ra⟩, _⟩ := rd_tup I sf h t
      exact ht X.A s a its.toArray x ds as _ _ rfl (I.ok.hd hc) il ra hok (fin its rv ⟨as, ra⟩)
  · intro F H ds vs k Q' s l ho go
    split at ho
    · obtain ⟨v, rfl, q⟩ := lk1 l
      obtain ⟨a, xs, rfl, h, t⟩ := lstH s q
      exact ⟨F, a, xs, _, _, rfl, s, t, ho.1, .inl h, fun v dq => go _ _ _ _ _ (.dat dq) ho.2⟩
    · obtain ⟨v, rfl, q⟩ := lk1 l
      obtain ⟨a, xs, rfl, _, h, t⟩ := tupH s q
      exact ⟨F, a, xs, _, _, rfl, s, t, ho.1, .inr h, fun v dq => go _ _ _ _ _ (.dat dq) ho.2⟩
    · exact ho.elim
def bMn1 : OB := fun ds k => match ds with
  | [.list (x :: xs)] => ordOk (x :: xs) ∧ k (.dat (PySem.W.minD x xs))
  | [.tuple (x :: xs)] => ordOk (x :: xs) ∧ k (.dat (PySem.W.minD x xs))
  | _ => False
def bMx1 : OB := fun ds k => match ds with
  | [.list (x :: xs)] => ordOk (x :: xs) ∧ k (.dat (PySem.W.maxD x xs))
  | [.tuple (x :: xs)] => ordOk (x :: xs) ∧ k (.dat (PySem.W.maxD x xs))
  | _ => False
theorem bd_min1 (hc : X.calm = true) (hu : X.A.units + 60 < cLine) : BD X (.builtin "min") bMn1 :=
  bd_mm (lt := PySem.W.minD) (P := fun _ => True) (fun A s l vs x xs as Q E eA hh hl hr ho h => PySem.W.min_list_data hh hl hr ho.1 (by subst eA; have := ho.2; omega) h) (fun A s l vs x xs as Q E eA hh hl hr ho h => PySem.W.min_tuple_data hh hl hr ho.1 (by subst eA; have := ho.2; omega) h) hc
theorem bd_max1 (hc : X.calm = true) (hu : X.A.units + 60 < cLine) : BD X (.builtin "max") bMx1 :=
  bd_mm (lt := PySem.W.maxD) (P := fun _ => True) (fun A s l vs x xs as Q E eA hh hl hr ho h => PySem.W.max_list_data hh hl hr ho.1 (by subst eA; have := ho.2; omega) h) (fun A s l vs x xs as Q E eA hh hl hr ho h => PySem.W.max_tuple_data hh hl hr ho.1 (by subst eA; have := ho.2; omega) h) hc
def bMn2 : OB := fun ds k => match ds with
  | [.int i, .int j] => k (.dat (.int (if j < i then j else i)))
  | _ => False
def bMx2 : OB := fun ds k => match ds with
  | [.int i, .int j] => k (.dat (.int (if j > i then j else i)))
  | _ => False
theorem bd_min2 (hc : X.calm = true) : BD X (.builtin "min") bMn2 := ⟨_, call_min2 hc, fun {F H ds vs k Q'} s l ho go => by
  unfold bMn2 at ho
  split at ho
  · obtain ⟨v, u, rfl, q, q'⟩ := lk2 l
    obtain rfl := q.int
    obtain rfl := q'.int
    exact ⟨_, _, rfl, go _ _ _ _ _ .datI ho⟩
  · exact ho.elim⟩
theorem bd_max2 (hc : X.calm = true) : BD X (.builtin "max") bMx2 := ⟨_, call_max2 hc, fun {F H ds vs k Q'} s l ho go => by
  unfold bMx2 at ho
  split at ho
  · obtain ⟨v, u, rfl, q, q'⟩ := lk2 l
    obtain rfl := q.int
    obtain rfl := q'.int
    exact ⟨_, _, rfl, go _ _ _ _ _ .datI ho⟩
  · exact ho.elim⟩
end
end DL

namespace DL
open PySem PySem.Spec PyProof.Rows L2
/-! ### a body's surroundings -/
structure Bd (X : Cx) (k : Nat) (E : EX) : Prop where
  room : Room k X.A
  gd : X.A.guards = some []
  nd : X.N.Nodup
  calm : X.calm = true
  px : ∀ σ, PassesAt (L2.CX X.prog X.w) X σ (E σ)
  own : PassesOwn (model X.prog X.w) X.A X.env X.xe
  tk : Takes X (fun cls d σ H => E σ cls d H)
theorem passF {X : Cx} {σ : Sg} : PassesAt (L2.CX X.prog X.w) X σ (EF σ) := fun _ _ _ _ _ _ ⟨_, _, _, _, _, _, _, _, _, _, _, _, e⟩ => e.elim
theorem Bd.blk {X : Cx} {k : Nat} {E : EX} (C : Bd X k E) {s : Shared} {H : Hp} {sc : Scope} {env : Env} {fp : List Addr} : Bd (X.blk s H sc env fp) k EF :=
  ⟨C.room, C.gd, C.nd, C.calm, fun σ => passF, PassesOwn.never, fun _ _ ⟨_, _, _, _, _, _, _, _, _, _, _, _, _, _, _, _, w⟩ => w.elim⟩
section
variable {X : Cx} {k : Nat} {E : EX} (C : Bd X k E)
include C
theorem Bd.u64 : X.A.units + 64 < cLine := C.room.units
theorem Bd.u65 : X.A.units + 65 < cLine := by have := C.room.un; omega
theorem Bd.u60 : X.A.units + 60 < cLine := by have := C.room.un; omega
theorem Bd.u101 : X.A.units + 101 < cLine := by have := C.room.un; omega
end
/-! ### defs -/
/-- what a def does: the parameters' things; a wish about the value and the things behind; a wish about exceptions -/
abbrev DSp := En → (N → En → Prop) → (Xc → En → Prop) → Prop
def toSp (K : PySem.W.Frag) (mg : Str → Option Value) (np : Nat) (ds : DSp) : Sp := fun vs H Q' E' => vs.length = np ∧ ∃ args F fps R Z, Sta K F H args (vs.map some) fps ∧ ds args R Z ∧
  (∀ n v ρ' σ' F' H' fps' fv, Got K args (vs.map some) F H fps n v ρ' σ' F' H' fps' fv → R n ρ' → Q' v H') ∧
  (∀ x ρ' σ' F' H' fps' cls d, GotS K args (vs.map some) F H fps ρ' σ' F' H' fps' → RelX K mg F' x cls d → Z x ρ' → E' cls d H')
structure FnG (P : Program) (w : World) (K : PySem.W.Frag) (mg : Str → Option Value) (base : Heap) (k : Nat) (f : Addr) (fd : FuncData) (ps : List Str) (sp : Sp) : Prop where
  len : ∀ vs H Q E, sp vs H Q E → vs.length = ps.length
  run : ∀ (A : Around) (outer : List Env) (s : Shared) (H : Hp) (args : Args) (us : List Value) (vs : List V) (Q : VK) (E : XK), Room k A → A.guards = some [] → Env0 P w K mg base A outer s H → BindsTo s fd args (ps.zip us) → Vals vs us → sp vs H Q E →
    codeAny (model P w) A (.call (.ref f) args) (CR (L2.CX P w) outer P w H s Q E) s
theorem FnG.mono {P : Program} {w : World} {K : PySem.W.Frag} {mg : Str → Option Value} {base : Heap} {j k : Nat} {f : Addr} {fd : FuncData} {ps : List Str} {sp : Sp} (F : FnG P w K mg base j f fd ps sp) (h : j ≤ k) : FnG P w K mg base k f fd ps sp :=
  ⟨F.len, fun A outer s H args us vs Q E hr => F.run A outer s H args us vs Q E (hr.mono h)⟩
/-- the reading of a body, as what its def does -/
def dspOf (n : Nat) (w : WS) : DSp := fun args R Z => w Z ⟨R (.dat .none), R, fun _ => False, fun _ => False⟩ (args ++ List.replicate (n - args.length) .e)
theorem sta_start {K : PySem.W.Frag} {F H : Hp} {N : List Str} {args : En} {vs : List V} {fps : Nat → Addr → Prop} (st : Sta K F H args (vs.map some) fps) :
    Sta K F H (args ++ List.replicate (N.length - args.length) .e) (L2.start N vs) fps := by
  have hl : args.length = vs.length := by rw [st.rs.len, List.length_map]
  have out : ∀ {i : Nat} {n : DL.N}, ¬ i < args.length → (args ++ List.replicate (N.length - args.length) Sl.e)[i]? ≠ some (.v n) ∧ (args ++ List.replicate (N.length - args.length) Sl.e)[i]? ≠ some (.p n) := fun {i n} hi => by
    rw [List.getElem?_append_right (by omega), List.getElem?_replicate]
    constructor <;> (split <;> exact fun z => nomatch z)
  refine ⟨st.wf, ⟨by unfold L2.start; simp [hl], fun i n e => ?_, fun i h1 h2 => ?_, st.rs.dis⟩⟩
  · by_cases hi : i < args.length
    · rw [List.getElem?_append_left hi] at e
      obtain ⟨v, hv, r⟩ := st.rs.rel i n e
      refine ⟨v, ?_, r⟩
      unfold L2.start
      rw [List.getElem?_append_left (by rw [List.length_map]; omega)]
      exact hv
    · rcases e with e | e
      · exact absurd e (out hi).1
      · exact absurd e (out hi).2
  · refine st.rs.emp i (fun n z => ?_) fun n z => ?_
    · exact h1 n (by rw [List.getElem?_append_left (List.getElem?_eq_some_iff.mp z).1]; exact z)
    · exact h2 n (by rw [List.getElem?_append_left (List.getElem?_eq_some_iff.mp z).1]; exact z)
theorem pk_start {N : List Str} {args ρ' : En} {vs : List V} {σ' : Sg} (hl : args.length = vs.length) (h : Pk (args ++ List.replicate (N.length - args.length) .e) (L2.start N vs) ρ' σ') : Pk args (vs.map some) ρ' σ' := fun i n e => by
  have hi := (List.getElem?_eq_some_iff.mp e).1
  obtain ⟨h1, h2⟩ := h i n (by rw [List.getElem?_append_left hi]; exact e)
  refine ⟨h1, h2.trans ?_⟩
  unfold L2.start
  rw [List.getElem?_append_left (by rw [List.length_map]; omega)]
section
variable {P : Program} {w : World} {K : PySem.W.Frag} {mg : Str → Option Value} {base : Heap}
/-- entering a def -/
theorem fun_enter {x qual : Str} {st : Stmt} {f : Addr} {fd : FuncData} {N ps : List Str} {k : Nat} {sp : Sp} (F : Fun K x qual st f fd) (S : FnScope N ps (defScope st)) (len : ∀ vs H Q E, sp vs H Q E → vs.length = ps.length)
    (body : ∀ (cdv : Value) (A : Around) (outer : List Env) (s : Shared) (H : Hp) (vs : List V) (Q : VK) (E : XK), Room k (A.deeper (envOfC qual (defScope st) s.heap.objs.size f cdv)) → A.guards = some [] → sp vs H Q E →
      ∃ t, PSs (cxOf (L2.CX P w) P w K mg base N qual (defScope st) f cdv A outer s H E) (defBody st) t ∧ t { nx := fun _ H' => Q .non H', rt := Q } (L2.start N vs) H) : FnG P w K mg base (k + 1) f fd ps sp where
  len := len
  run := fun A outer s H args us vs Q E room hg e0 binds rv hs => by
    obtain ⟨oc, od, kV, doc, pm, an, cdv, ct, osl, rfl, look, code⟩ := F.ex
    have kin : K.In s.heap := e0.mod.kin.keeps fun b o q => (e0.bs b o q).1
    refine codeAny_call_function room.depth (kin _ _ look) rfl S.co S.gen rfl (PySem.W.codeRec_of kin code) (binds _ _ _ _ (wpAny_newFunctionEnv_cells S.kind (fun y hy => ?_) fun env he s1 entered => ?_))
    · cases S.par y.1 (List.of_mem_zip (a := y.1) (b := y.2) hy).1 with
      | inl q => exact .inl q
      | inr q => exact .inr ⟨q, PySem.W.cellsFrom_some _ _ _ (.inl q)⟩
    · subst he
      obtain ⟨t, pt, wish⟩ := body cdv A outer s H vs Q E (room.deeper _) hg hs
      have J := inv_start (CX := L2.CX P w) (P := P) (w := w) (K := K) (mg := mg) (base := base) (qual := qual) (f := f) (cd := cdv) (E := E) S room.hd e0 (len _ _ _ _ hs) rv entered
      refine ⟨(e0.mod.nolimit.keeps fun b o q => (e0.bs b o q).1).keeps entered.toInCall.keep, codeAny_func (wpAny_mono (pt.run [] s1 (L2.start N vs) H _ J wish) (fun fl s' done => ?_) fun _ _ q => q)⟩
      match fl, done with
      | .ret u, ⟨v, _, H', I', r, q⟩ => exact ⟨v, H', I'.os, I'.bare, I'.base, I'.hok, r, q⟩
      | .next, ⟨_, H', I', q⟩ => exact ⟨V.non, H', I'.os, I'.bare, I'.base, I'.hok, rfl, q⟩
      | .brk, ⟨_, _, _, q⟩ => exact q.elim
      | .cont, ⟨_, _, _, q⟩ => exact q.elim
/-- a def by the reading of its body -/
theorem fun_does {x qual : Str} {st : Stmt} {f : Addr} {fd : FuncData} {N ps : List Str} {k : Nat} {wb : WS} (F : Fun K x qual st f fd) (S : FnScope N ps (defScope st)) 
    (body : ∀ (cdv : Value) (A : Around) (outer : List Env) (s : Shared) (H : Hp) (E : XK), Bd (cxOf (L2.CX P w) P w K mg base N qual (defScope st) f cdv A outer s H E) k (fun _ => E) →
      PSs (cxOf (L2.CX P w) P w K mg base N qual (defScope st) f cdv A outer s H E) (defBody st) (rs K mg (fun _ => E) wb)) : FnG P w K mg base (k + 1) f fd ps (toSp K mg ps.length (dspOf N.length wb)) := by
  refine fun_enter F S (fun vs H Q E h => h.1) fun cdv A outer s H vs Q E room hg h => ?_
  have B : Bd (cxOf (L2.CX P w) P w K mg base N qual (defScope st) f cdv A outer s H E) k (fun _ => E) :=
    ⟨room, hg, S.nd, rfl, fun σ => passAt (W := fun cls d _ H => E cls d H) (takes_of (E := E) rfl rfl rfl rfl) σ, passes_of rfl, takes_of (E := E) rfl rfl rfl rfl⟩
  refine ⟨_, body cdv A outer s H E B, ?_⟩
  obtain ⟨hl, args, F0, fps, R, Z, sta, hd, q1, q2⟩ := h
  have hla : args.length = vs.length := by rw [sta.rs.len, List.length_map]
  have s2 := sta_start (N := N) sta
  refine ⟨_, F0, fps, Z, _, s2, hd, fun x ρ' σ' F' H' fps' cls d g r z => q2 x ρ' σ' F' H' fps' cls d ⟨g.tr, g.st, pk_start hla g.pk⟩ r z, fun ρ' σ' F' H' fps' g => ⟨fun z => ?_, fun z => z.elim, fun z => z.elim⟩, fun n v ρ' σ' F' H' fps' fv g z => ?_⟩
  · exact q1 (.dat .none) .non ρ' σ' F' H' fps' Nil (.of ⟨g.tr, g.st, pk_start hla g.pk⟩ .non) z
  · exact q1 n v ρ' σ' F' H' fps' fv ⟨g.tr, g.wf, g.rs, pk_start hla g.pk, g.rn, g.ap⟩ z
end
end DL

namespace DL
open PySem PySem.Spec PyProof.Rows L2
/-! ### a call: data goes, own things are lent -/
def lentI (as : List Ar) : List Nat := as.filterMap fun a => match a with
  | .d _ => none
  | .o i => some i
def argS (ρ : En) : Ar → Sl
  | .d d => .v (.dat d)
  | .o i => match ρ[i]? with
    | some (.v n) => .p n
    | some (.p n) => .p n
    | _ => .e
def argE (ρ : En) (as : List Ar) : En := as.map (argS ρ)
/-- what a lent slot holds behind the call -/
def mrg : Option Sl → Sl → Sl
  | some (.p n), .p _ => .p n
  | some (.p n), .v _ => .v n
  | _, s => s
def backE (ρ' : En) : Nat → List Ar → En → En
  | _, [], ρ => ρ
  | j, .d _ :: as, ρ => backE ρ' (j + 1) as ρ
  | j, .o i :: as, ρ => backE ρ' (j + 1) as (match ρ[i]? with
    | some s => ρ.set i (mrg ρ'[j]? s)
    | none => ρ)
theorem lentI_mem {as : List Ar} {i : Nat} : i ∈ lentI as ↔ ∃ j : Nat, as[j]? = some (.o i) := by
  unfold lentI
  rw [List.mem_filterMap]
  constructor
  · rintro ⟨a, ha, e⟩
    obtain ⟨j, hj⟩ := List.getElem?_of_mem ha
    cases a with
    | d => cases e
    | o k => cases e; exact ⟨j, hj⟩
  · rintro ⟨j, hj⟩
    exact ⟨_, List.mem_of_getElem? hj, rfl⟩
theorem lentI_nd : ∀ {as : List Ar} {i j l : Nat}, (lentI as).Nodup → as[j]? = some (.o i) → as[l]? = some (.o i) → j = l
  | a :: as, i, 0, 0, _, _, _ => rfl
  | a :: as, i, 0, l + 1, nd, h1, h2 => by
    have e : a = .o i := by simpa using h1
    subst e
    have hm : i ∈ lentI as := lentI_mem.mpr ⟨l, by simpa using h2⟩
    exact absurd hm (List.nodup_cons.mp (show (i :: lentI as).Nodup from nd)).1
  | a :: as, i, j + 1, 0, nd, h1, h2 => by
    have e : a = .o i := by simpa using h2
    subst e
    have hm : i ∈ lentI as := lentI_mem.mpr ⟨j, by simpa using h1⟩
    exact absurd hm (List.nodup_cons.mp (show (i :: lentI as).Nodup from nd)).1
  | a :: as, i, j + 1, l + 1, nd, h1, h2 => by
    have nd' : (lentI as).Nodup := by
      cases a with
      | d => exact nd
      | o k => exact (List.nodup_cons.mp (show (k :: lentI as).Nodup from nd)).2
    exact congrArg (· + 1) (lentI_nd nd' (by simpa using h1) (by simpa using h2))
  | [], _, _, _, _, h, _ => by simp at h
theorem backE_len {ρ' : En} : ∀ (as : List Ar) (j : Nat) (ρ : En), (backE ρ' j as ρ).length = ρ.length
  | [], _, _ => rfl
  | .d _ :: as, j, ρ => backE_len as (j + 1) ρ
  | .o i :: as, j, ρ => by
    unfold backE
    rw [backE_len as]
    split
    · rw [List.length_set]
    · rfl
theorem backE_out {ρ' : En} : ∀ {as : List Ar} {j i : Nat} {ρ : En}, i ∉ lentI as → (backE ρ' j as ρ)[i]? = ρ[i]?
  | [], _, _, _, _ => rfl
  | .d _ :: as, j, i, ρ, h => backE_out (as := as) h
  | .o k :: as, j, i, ρ, h => by
    have h' : i ∉ k :: lentI as := h
    unfold backE
    rw [backE_out fun z => h' (List.mem_cons_of_mem _ z)]
    split
    · rw [List.getElem?_set_ne fun e => h' (by subst e; exact List.mem_cons_self)]
    · rfl
theorem backE_in {ρ' : En} : ∀ {as : List Ar} {j m i : Nat} {ρ : En}, (lentI as).Nodup → as[m]? = some (.o i) → (backE ρ' j as ρ)[i]? = ρ[i]?.map (mrg ρ'[j + m]?)
  | [], _, _, _, _, _, h => by simp at h
  | .d _ :: as, j, 0, i, ρ, nd, h => by simp at h
  | .d _ :: as, j, m + 1, i, ρ, nd, h => by
    unfold backE
    rw [backE_in (as := as) (m := m) nd (by simpa using h), show j + 1 + m = j + (m + 1) by omega]
  | .o k :: as, j, 0, i, ρ, nd, h => by
    have e : k = i := by simpa using h
    subst e
    have nd' := List.nodup_cons.mp (show (k :: lentI as).Nodup from nd)
    unfold backE
    rw [backE_out nd'.1]
    cases er : ρ[k]? with
    | none => simp only [er, Option.map_none]
    | some s =>
      simp only [Option.map_some, Nat.add_zero]
      exact List.getElem?_set_self (List.getElem?_eq_some_iff.mp er).1
  | .o k :: as, j, m + 1, i, ρ, nd, h => by
    have nd' := List.nodup_cons.mp (show (k :: lentI as).Nodup from nd)
    have h' : as[m]? = some (.o i) := by simpa using h
    have hk : k ≠ i := fun e => by subst e; exact nd'.1 (lentI_mem.mpr ⟨m, h'⟩)
    unfold backE
    rw [backE_in nd'.2 h', show j + 1 + m = j + (m + 1) by omega]
    congr 1
    split
    · rw [List.getElem?_set_ne hk]
    · rfl
theorem relAr_at {K : PySem.W.Frag} {F : Hp} {σ : Sg} : ∀ {as : List Ar} {vs : List V} {j : Nat} {a : Ar}, RelAr K F σ as vs → as[j]? = some a → ∃ v, vs[j]? = some v ∧ RelA K F σ a v
  | _, _, _, _, .nil, h => by simp at h
  | _, _, 0, a, .cons r t, h => by
    have e := Option.some.inj (show some _ = some a from h)
    subst e
    exact ⟨_, rfl, r⟩
  | _, _, j + 1, a, .cons r t, h => by
    obtain ⟨v, h1, h2⟩ := relAr_at t (by simpa using h)
    exact ⟨v, by simpa using h1, h2⟩
theorem relAr_len {K : PySem.W.Frag} {F : Hp} {σ : Sg} : ∀ {as : List Ar} {vs : List V}, RelAr K F σ as vs → as.length = vs.length
  | _, _, .nil => rfl
  | _, _, .cons _ t => congrArg (· + 1) (relAr_len t)
section
variable {K : PySem.W.Frag} {F H : Hp} {ρ : En} {σ : Sg} {fps : Nat → Addr → Prop} {as : List Ar} {vs : List V}
def fpA (as : List Ar) (fps : Nat → Addr → Prop) : Nat → Addr → Prop := fun j => match as[j]? with
  | some (.o i) => fps i
  | _ => Nil
/-- slot i is lent as the argument j -/
def Lent (ρ : En) (as : List Ar) (i j : Nat) : Prop := as[j]? = some (.o i) ∧ ∃ n, ρ[i]? = some (.v n) ∨ ρ[i]? = some (.p n)
theorem Lent.arg {i j : Nat} (l : Lent ρ as i j) : ∃ n, (argE ρ as)[j]? = some (.p n) ∧ (ρ[i]? = some (.v n) ∨ ρ[i]? = some (.p n)) := by
  obtain ⟨h, n, e⟩ := l
  refine ⟨n, ?_, e⟩
  unfold argE
  rw [List.getElem?_map, h]
  rcases e with e | e <;> simp only [Option.map_some, argS, e]
theorem fpA_of {j : Nat} {a : Addr} (s : Sta K F H ρ σ fps) (h : fpA as fps j a) : ∃ i, Lent ρ as i j ∧ fps i a := by
  unfold fpA at h
  cases e : as[j]? with
  | none => simp only [e] at h; exact h.elim
  | some b =>
    cases b with
    | d => simp only [e] at h; exact h.elim
    | o i =>
      simp only [e] at h
      refine ⟨i, ⟨e, ?_⟩, h⟩
      refine Classical.byContradiction fun no => ?_
      have z := s.rs.emp i (fun n q => no ⟨n, .inl q⟩) fun n q => no ⟨n, .inr q⟩
      rw [z] at h
      exact h
theorem sta_args (s : Sta K F H ρ σ fps) (r : RelAr K F σ as vs) (nd : (lentI as).Nodup) : Sta K F H (argE ρ as) (vs.map some) (fpA as fps) := by
  refine ⟨s.wf.less fun b ⟨j, hj⟩ => let ⟨i, _, h⟩ := fpA_of s hj; ⟨i, h⟩, ⟨by simp [argE, relAr_len r], fun j n e => ?_, fun j h1 h2 => ?_, fun j l a hjl hj hl => ?_⟩⟩
  · cases ea : as[j]? with
    | none =>
      have : (argE ρ as)[j]? = none := by unfold argE; rw [List.getElem?_map, ea]; rfl
      rw [this] at e; rcases e with e | e <;> cases e
    | some a =>
      obtain ⟨v, hv, ra⟩ := relAr_at r ea
      have es : (argE ρ as)[j]? = some (argS ρ a) := by unfold argE; rw [List.getElem?_map, ea]; rfl
      refine ⟨v, by rw [List.getElem?_map, hv]; rfl, ?_⟩
      cases ra with
      | d q =>
        rw [es] at e
        have ef : fpA as fps j = Nil := by unfold fpA; simp only [ea]
        rcases e with e | e
        · cases e; exact ⟨ef, q⟩
        · cases e
      | @o i v hs =>
        have ef : fpA as fps j = fps i := by unfold fpA; simp only [ea]
        rw [ef]
        rw [es] at e
        cases er : ρ[i]? with
        | none => simp only [argS, er] at e; rcases e with e | e <;> cases e
        | some sl =>
          cases sl with
          | e => simp only [argS, er] at e; rcases e with e | e <;> cases e
          | v m =>
            simp only [argS, er] at e
            have en : n = m := by rcases e with e | e <;> cases e; rfl
            subst en
            obtain ⟨u, hu, rn⟩ := s.rs.rel i n (.inl er)
            rw [hs] at hu; cases hu
            exact rn
          | p m =>
            simp only [argS, er] at e
            have en : n = m := by rcases e with e | e <;> cases e; rfl
            subst en
            obtain ⟨u, hu, rn⟩ := s.rs.rel i n (.inr er)
            rw [hs] at hu; cases hu
            exact rn
  · refine funext fun a => propext ⟨fun h => ?_, fun h => h.elim⟩
    obtain ⟨i, l, _⟩ := fpA_of s h
    obtain ⟨n, e, _⟩ := l.arg
    exact absurd e (h2 n)
  · obtain ⟨i, l1, h1⟩ := fpA_of s hj
    obtain ⟨i', l2, h2⟩ := fpA_of s hl
    have hne : i ≠ i' := fun e => by subst e; exact hjl (lentI_nd nd l1.1 l2.1)
    exact s.rs.dis i i' a hne h1 h2
open Classical in
/-- who owns what behind the call -/
noncomputable def fpB (ρ : En) (as : List Ar) (fps fps' : Nat → Addr → Prop) : Nat → Addr → Prop := fun i => if h : ∃ j, Lent ρ as i j then fps' h.choose else fps i
theorem fpB_l {fps' : Nat → Addr → Prop} {i j : Nat} (nd : (lentI as).Nodup) (l : Lent ρ as i j) : fpB ρ as fps fps' i = fps' j := by
  have h : ∃ j, Lent ρ as i j := ⟨j, l⟩
  unfold fpB
  rw [dif_pos h, lentI_nd nd h.choose_spec.1 l.1]
theorem fpB_n {fps' : Nat → Addr → Prop} {i : Nat} (h : ¬ ∃ j, Lent ρ as i j) : fpB ρ as fps fps' i = fps i := by
  unfold fpB
  rw [dif_neg h]
theorem call_back {n : DL.N} {v : V} {ρ' : En} {σ' : Sg} {F' H' : Hp} {fps' : Nat → Addr → Prop} {fv : Addr → Prop} (s : Sta K F H ρ σ fps) (r : RelAr K F σ as vs) (nd : (lentI as).Nodup)
    (g : Got K (argE ρ as) (vs.map some) F H (fpA as fps) n v ρ' σ' F' H' fps' fv) : Got K ρ σ F H fps n v (backE ρ' 0 as ρ) σ F' H' (fpB ρ as fps fps') fv := by
  have sub : ∀ b, Ow (fpA as fps) b → Ow fps b := fun b ⟨j, hj⟩ => let ⟨i, _, h⟩ := fpA_of s hj; ⟨i, h⟩
  -- what is not lent is no part of the callee's
  have apart : ∀ {i : Nat} {b : Addr}, (¬ ∃ j, Lent ρ as i j) → fps i b → ¬ Ow (fpA as fps) b := fun {i b} hn hb ⟨j, hj⟩ => by
    obtain ⟨i', l, h⟩ := fpA_of s hj
    by_cases e : i = i'
    · subst e; exact hn ⟨j, l⟩
    · exact s.rs.dis i i' b e hb h
  have dm : ∀ {i : Nat} {b : Addr}, fps i b → H b ≠ none := fun {i b} hb => s.wf.dom b ⟨i, hb⟩
  have ntp : ∀ {i : Nat} {b : Addr}, fps i b → ∀ xs, H b ≠ some (.tup xs) := fun {i b} hb xs => s.nt ⟨i, hb⟩ xs
  have got : ∀ {i j : Nat}, Lent ρ as i j → ∃ n', ρ'[j]? = some (.p n') ∧ σ'[j]? = σ[i]? := fun {i j} l => by
    obtain ⟨n0, e0, _⟩ := l.arg
    obtain ⟨⟨n', e1⟩, e2⟩ := g.pk j n0 e0
    obtain ⟨u, hu, ra⟩ := relAr_at r l.1
    cases ra with
    | o hs => exact ⟨n', e1, by rw [e2, List.getElem?_map, hu, hs]; rfl⟩
  refine ⟨⟨g.tr.grow, fun b h h' => (g.tr.new b h h').imp (sub b) id, fun b o e no => g.tr.keep b o e fun z => no (sub b z), fun b z => ?_⟩, ⟨g.wf.sub, fun b z => ?_, fun b z => ?_⟩, ⟨by rw [backE_len]; exact s.rs.len, fun i m e => ?_, fun i h1 h2 => ?_, fun i l a hil hi hl => ?_⟩, fun i m e => ⟨?_, rfl⟩, g.rn, fun a ha ⟨i, hi⟩ => ?_⟩
  · rcases z with ⟨i, hi⟩ | z
    · by_cases hl : ∃ j, Lent ρ as i j
      · obtain ⟨j, l⟩ := hl
        rw [fpB_l nd l] at hi
        exact (g.tr.sub b (.inl ⟨j, hi⟩)).imp (sub b) id
      · rw [fpB_n hl] at hi; exact .inl ⟨i, hi⟩
    · exact (g.tr.sub b (.inr z)).imp (sub b) id
  · rcases z with ⟨i, hi⟩ | z
    · by_cases hl : ∃ j, Lent ρ as i j
      · obtain ⟨j, l⟩ := hl
        rw [fpB_l nd l] at hi
        exact g.wf.out b (.inl ⟨j, hi⟩)
      · rw [fpB_n hl] at hi
        exact g.tr.unfr (s.wf.out b ⟨i, hi⟩) (apart hl hi) (dm hi) (ntp hi)
    · exact g.wf.out b (.inr z)
  · rcases z with ⟨i, hi⟩ | z
    · by_cases hl : ∃ j, Lent ρ as i j
      · obtain ⟨j, l⟩ := hl
        rw [fpB_l nd l] at hi
        exact g.wf.dom b (.inl ⟨j, hi⟩)
      · rw [fpB_n hl] at hi
        cases e : H b with
        | none => exact absurd e (dm hi)
        | some o => rw [g.tr.keep b o e (apart hl hi)]; exact fun q => nomatch q
    · exact g.wf.dom b (.inr z)
  · by_cases hl : ∃ j, Lent ρ as i j
    · obtain ⟨j, l⟩ := hl
      obtain ⟨n', e1, e2⟩ := got l
      rw [backE_in nd l.1, Nat.zero_add, e1] at e
      rw [fpB_l nd l, ← e2]
      have em : m = n' := by
        obtain ⟨n0, en⟩ := l.2
        rcases en with en | en <;> (rw [en] at e; rcases e with e | e <;> cases e <;> rfl)
      subst em
      exact g.rs.rel j m (.inr e1)
    · rw [fpB_n hl]
      have e' : ρ[i]? = some (.v m) ∨ ρ[i]? = some (.p m) := by
        by_cases hm : i ∈ lentI as
        · obtain ⟨j, hj⟩ := lentI_mem.mp hm
          rw [backE_in nd hj] at e
          cases er : ρ[i]? with
          | none => rw [er] at e; rcases e with e | e <;> cases e
          | some sl =>
            cases sl with
            | e =>
              rw [er] at e
              have : mrg ρ'[0 + j]? Sl.e = .e := by
                cases ρ'[0 + j]? with
                | none => rfl
                | some q => cases q <;> rfl
              rw [Option.map_some, this] at e
              rcases e with e | e <;> cases e
            | v m' => exact absurd ⟨j, hj, m', .inl er⟩ hl
            | p m' => exact absurd ⟨j, hj, m', .inr er⟩ hl
        · rw [backE_out hm] at e; exact e
      obtain ⟨u, hu, rn⟩ := s.rs.rel i m e'
      exact ⟨u, hu, g.tr.held rn fun a ha => apart hl ha⟩
  · by_cases hl : ∃ j, Lent ρ as i j
    · obtain ⟨j, l⟩ := hl
      obtain ⟨n', e1, e2⟩ := got l
      obtain ⟨n0, en⟩ := l.2
      have eb : (backE ρ' 0 as ρ)[i]? = ρ[i]?.map (mrg (some (.p n'))) := by rw [backE_in nd l.1, Nat.zero_add, e1]
      rcases en with en | en
      · rw [en] at eb; exact absurd eb (h1 n')
      · rw [en] at eb; exact absurd eb (h2 n')
    · rw [fpB_n hl]
      by_cases hm : i ∈ lentI as
      · obtain ⟨j, hj⟩ := lentI_mem.mp hm
        exact s.rs.emp i (fun q z => hl ⟨j, hj, q, .inl z⟩) fun q z => hl ⟨j, hj, q, .inr z⟩
      · exact s.rs.emp i (fun q z => h1 q (by rw [backE_out hm]; exact z)) fun q z => h2 q (by rw [backE_out hm]; exact z)
  · have cross : ∀ {i l j : Nat}, Lent ρ as i j → (¬ ∃ j, Lent ρ as l j) → fps' j a → fps l a → False := fun {i l j} li hl h1 h2 => by
      rcases g.tr.sub a (.inl ⟨j, h1⟩) with z | z
      · exact apart hl h2 z
      · exact dm h2 z
    by_cases h1 : ∃ j, Lent ρ as i j
    · obtain ⟨j, l1⟩ := h1
      rw [fpB_l nd l1] at hi
      by_cases h2 : ∃ j, Lent ρ as l j
      · obtain ⟨j2, l2⟩ := h2
        rw [fpB_l nd l2] at hl
        have hne : j ≠ j2 := fun e => by
          subst e
          have := l1.1.symm.trans l2.1
          cases this
          exact hil rfl
        exact g.rs.dis j j2 a hne hi hl
      · rw [fpB_n h2] at hl; exact cross l1 h2 hi hl
    · rw [fpB_n h1] at hi
      by_cases h2 : ∃ j, Lent ρ as l j
      · obtain ⟨j2, l2⟩ := h2
        rw [fpB_l nd l2] at hl
        exact cross l2 h1 hl hi
      · rw [fpB_n h2] at hl; exact s.rs.dis i l a hil hi hl
  · by_cases hm : i ∈ lentI as
    · obtain ⟨j, hj⟩ := lentI_mem.mp hm
      obtain ⟨n', e1, e2⟩ := got ⟨hj, m, .inr e⟩
      exact ⟨n', by rw [backE_in nd hj, Nat.zero_add, e1, e]; rfl⟩
    · exact ⟨m, by rw [backE_out hm]; exact e⟩
  · by_cases hl : ∃ j, Lent ρ as i j
    · obtain ⟨j, l⟩ := hl
      rw [fpB_l nd l] at hi
      exact g.ap a ha ⟨j, hi⟩
    · rw [fpB_n hl] at hi
      rcases g.tr.sub a (.inr ha) with z | z
      · exact apart hl hi z
      · exact dm hi z
end
def wCall (np : Nat) (ds : DSp) (ws : WA) : WE := fun Z ρ Q => ws Z ρ fun as ρ1 => as.length = np ∧ (lentI as).Nodup ∧ ds (argE ρ1 as) (fun n ρ' => Q n (backE ρ' 0 as ρ1)) fun x ρ' => Z x (backE ρ' 0 as ρ1)
/-- a def of the text, ready to be called -/
structure Cal (P : Program) (w : World) (K : PySem.W.Frag) (mg : Str → Option Value) (base : Heap) (k : Nat) (x : Str) (st : Stmt) (ps : List Str) (ds : DSp) : Prop where
  ex : ∃ f fd, mg x = some (.ref f) ∧ Fun K x x st f fd ∧ FnG P w K mg base k f fd ps (toSp K mg ps.length ds)
section
variable {X : Cx} {k : Nat} {E : EX}
theorem sp_call {K : PySem.W.Frag} {mg : Str → Option Value} {np : Nat} {ds : DSp} {ρ : En} {σ : Sg} {F H : Hp} {fps : Nat → Addr → Prop} {as : List Ar} {vs : List V} {Z : KX} {Q : DL.N → En → Prop} {Q' : VK} (s : Sta K F H ρ σ fps) (r : RelAr K F σ as vs) (hl : vs.length = np) (nd : (lentI as).Nodup)
    (h : ds (argE ρ as) (fun n ρ' => Q n (backE ρ' 0 as ρ)) fun x ρ' => Z x (backE ρ' 0 as ρ)) (zc : ZC K mg E ρ σ F H fps Z) (k : ∀ n v ρ' F' H' fps' fv, Got K ρ σ F H fps n v ρ' σ F' H' fps' fv → Q n ρ' → Q' v H') : toSp K mg np ds vs H Q' (E σ) :=
  ⟨hl, argE ρ as, F, fpA as fps, _, _, sta_args s r nd, h, fun n v ρ' σ' F' H' fps' fv g q => k _ _ _ _ _ _ _ (call_back s r nd g) q,
    fun x ρ' σ' F' H' fps' cls d g rx z => zc x _ σ F' H' _ cls d (call_back s r nd (Got.of g .non)).s rx z⟩
theorem run_g {pins : List (Addr × Obj)} {σ : Sg} {H : Hp} {s : Shared} {Q : VK} {us : List Value} {args : Args} {vs : List V} {f : Addr} {fd : FuncData} {ps : List Str} {sp : Sp} (C : Bd X k E) (F : FnG X.prog X.w X.K X.mg X.base k f fd ps sp)
    (I : Inv X pins σ H s) (hb : BindsTo s fd args (ps.zip us)) (r : Vals vs us) (h : sp vs H Q (E σ)) : codeAny (model X.prog X.w) X.A (.call (.ref f) args) (fun r s' => match r with
      | .ok (.ret u) => EP X pins σ Q u s'
      | .ok _ => False
      | .error e => X.xe e s') s := by
  refine codeAny_mono (F.run X.A X.stack s H args us vs Q (E σ) C.room C.gd I.env0 hb r h) fun out s' q => ?_
  match out, q with
  | .ok (.ret u), q => exact I.after q
  | .error e, q => exact C.px σ pins H s e s' I q
end
end DL

namespace DL
open PySem PySem.Spec PyProof.Rows L2
/-! ### calls of defs of the text -/
/-- those of a list that stand at the places is -/
def sel {α : Type} (is : List Nat) (l : List α) : List α := is.filterMap fun i => l[i]?
theorem sel_rel {K : PySem.W.Frag} {F : Hp} {σ : Sg} {as : List Ar} {vs : List V} (r : RelAr K F σ as vs) : ∀ is : List Nat, RelAr K F σ (sel is as) (sel is vs)
  | [] => .nil
  | i :: is => by
    cases e : as[i]? with
    | none =>
      have e2 : vs[i]? = none := List.getElem?_eq_none (by rw [← relAr_len r]; exact List.getElem?_eq_none_iff.mp e)
      have h1 : sel (i :: is) as = sel is as := by unfold sel; rw [List.filterMap_cons, e]
      have h2 : sel (i :: is) vs = sel is vs := by unfold sel; rw [List.filterMap_cons, e2]
      rw [h1, h2]; exact sel_rel r is
    | some a =>
      obtain ⟨v, e2, ra⟩ := relAr_at r e
      have h1 : sel (i :: is) as = a :: sel is as := by unfold sel; rw [List.filterMap_cons, e]
      have h2 : sel (i :: is) vs = v :: sel is vs := by unfold sel; rw [List.filterMap_cons, e2]
      rw [h1, h2]; exact .cons ra (sel_rel r is)
theorem sel_vals {vs : List V} {us : List Value} (r : Vals vs us) : ∀ is : List Nat, Vals (sel is vs) (sel is us)
  | [] => .nil
  | i :: is => by
    cases e : vs[i]? with
    | none =>
      have e2 : us[i]? = none := List.getElem?_eq_none (by rw [← r.length]; exact List.getElem?_eq_none_iff.mp e)
      have h1 : sel (i :: is) vs = sel is vs := by unfold sel; rw [List.filterMap_cons, e]
      have h2 : sel (i :: is) us = sel is us := by unfold sel; rw [List.filterMap_cons, e2]
      rw [h1, h2]; exact sel_vals r is
    | some a =>
      obtain ⟨v, e2, ra⟩ := r.get e
      have h1 : sel (i :: is) vs = a :: sel is vs := by unfold sel; rw [List.filterMap_cons, e]
      have h2 : sel (i :: is) us = v :: sel is us := by unfold sel; rw [List.filterMap_cons, e2]
      rw [h1, h2]; exact .cons ra (sel_vals r is)
theorem sel_len {α β : Type} {l : List α} {l' : List β} (is : List Nat) (h : l.length = l'.length) : (sel is l).length = (sel is l').length := by
  induction is with
  | nil => rfl
  | cons i is ih =>
    unfold sel at ih ⊢
    rw [List.filterMap_cons, List.filterMap_cons]
    by_cases hi : i < l.length
    · rw [List.getElem?_eq_getElem hi, List.getElem?_eq_getElem (by rw [← h]; exact hi)]
      exact congrArg (· + 1) ih
    · rw [List.getElem?_eq_none (by omega), List.getElem?_eq_none (by omega)]
      exact ih
theorem relAr_app {K : PySem.W.Frag} {F : Hp} {σ : Sg} {as bs : List Ar} {vs ws : List V} (r : RelAr K F σ as vs) (q : RelAr K F σ bs ws) : RelAr K F σ (as ++ bs) (vs ++ ws) := by
  induction r with
  | nil => exact q
  | cons a t ih => exact .cons a ih
def wCallK (is : List Nat) (n m : Nat) (ds : DSp) (ws wk : WA) : WE := fun Z ρ Q => ws Z ρ fun as ρ1 => wk Z ρ1 fun bs ρ2 => as.length = n ∧ bs.length = m ∧ (lentI (sel is (as ++ bs))).Nodup ∧
  ds (argE ρ2 (sel is (as ++ bs))) (fun n ρ' => Q n (backE ρ' 0 (sel is (as ++ bs)) ρ2)) fun x ρ' => Z x (backE ρ' 0 (sel is (as ++ bs)) ρ2)
section
variable {X : Cx} {k : Nat} {E : EX} {x : Str} {st : Stmt} {ps : List Str} {ds : DSp} {p pos : Pos} {e : Expr} {es : List Expr} {ws wk : WA} {kws : List Keyword} {nm : Option Str} {kpos : Pos} {w : WX} {ks : List Str} {is : List Nat} {n m : Nat}
theorem k_nil : PK X [] (ra X.K X.mg E aNil) := ⟨fun pos pins s σ H Q I ⟨ρ, F, fps, Z, Qd, st, hw, zc, k⟩ => pk_nil.run pos pins s σ H Q I (k _ _ _ _ _ _ (.refl st) .nil hw)⟩
theorem k_cons (ha : PE X e (rx X.K X.mg E w)) (hr : PK X kws (ra X.K X.mg E ws)) : PK X (⟨nm, e, kpos⟩ :: kws) (ra X.K X.mg E (aCons w ws)) := ⟨fun pos pins s σ H Q I ⟨ρ, F, fps, Z, Qd, st, hw, zc, k⟩ =>
  (pk_cons ha hr).run pos pins s σ H Q I ⟨ρ, F, fps, Z, _, st, hw, zc, fun a v ρ1 F1 H1 fps1 g1 q1 h1 =>
    ⟨ρ1, F1, fps1, Z, _, g1.st, h1, zc.step g1, fun as vs ρ2 F2 H2 fps2 g2 r2 q2 => k _ _ _ _ _ _ (g1.trans g2) (.cons (q1.mono g2.tr.grow) r2) q2⟩⟩⟩
/-- what a written part of the text is called with -/
abbrev BindP (x : Str) (st : Stmt) (ps : List Str) (n : Nat) : Prop := ∀ (kV doc pm : Value) (an : Option Addr) (cdv ct : Value) (us : List Value), us.length = n → bindArgs (PySem.W.fnOf x x (defArgs st) (defBody st) (defScope st) .none kV doc pm an cdv ct) ⟨us, []⟩ = pure (ps.zip us)
abbrev BindK (x : Str) (st : Stmt) (ps ks : List Str) (is : List Nat) (n m : Nat) : Prop := ∀ (kV doc pm : Value) (an : Option Addr) (cdv ct : Value) (us zs : List Value), us.length = n → zs.length = m → bindArgs (PySem.W.fnOf x x (defArgs st) (defBody st) (defScope st) .none kV doc pm an cdv ct) ⟨us, ks.zip zs⟩ = pure (ps.zip (sel is (us ++ zs)))
theorem d_call (C : Bd X k E) (G : Cal X.prog X.w X.K X.mg X.base k x st ps ds) (hg : Gl X x) (hb : BindP x st ps ps.length) (ha : PA X (e :: es) (ra X.K X.mg E ws)) (hdb : (x == ("__debug__" : Str)) = false := by decide)
    (he : starEach (e :: es) X.env = (false, eval e X.env) :: starEach es X.env := by rfl) (hpl : (backTo pos (starEach es X.env)).any (·.1) = false := by rfl) :
    PE X (.Call (.Name x p) (e :: es) [] pos) (rd X.K X.mg E (wCall ps.length ds ws)) := by
  obtain ⟨f, fd, hm, ⟨⟨oc, od, kV, doc, pm, an, cdv, ct, osl, rfl, lk, hcd⟩, kp⟩, F⟩ := G.ex
  refine ⟨fun pins s σ H Q I ⟨ρ, F0, fps, Z, Qd, st0, hw, zc, kk⟩ => ?_⟩
  refine wpAny_Call_Name_kw (ld_glob I hg hm (PySem.W.callWith_K (h₀ := X.base) I.ok.mod.kin kp (thn (ha.run pos pins s σ H (fun vs H1 => toSp X.K X.mg ps.length ds vs H1 Q (E σ)) I ?_) fun us s1 ⟨vs, H1, I1, r, q⟩ => ⟨I1.kIn, ?_⟩) he hpl) hdb)
  · refine ⟨ρ, F0, fps, Z, fun as ρ1 => as.length = ps.length ∧ ((lentI as).Nodup ∧ ds (argE ρ1 as) (fun n ρ' => Qd n (backE ρ' 0 as ρ1)) fun x ρ' => Z x (backE ρ' 0 as ρ1)), st0, ?_, zc, fun as vs ρ1 F1 H1 fps1 g r q => sp_call g.st r (by rw [← relAr_len r]; exact q.1) q.2.1 q.2.2 (zc.step g) fun n v ρ' F' H' fps' fv g2 q2 => kk _ _ _ _ _ _ _ (.after g g2) q2⟩
    exact hw
  · exact wpAny_call (codeAny_mono (run_g C F I1 (.of_eq (hb kV doc pm an cdv ct us (by rw [← r.length]; exact q.1))) r q) fun out s' z => by
      match out, z with
      | .ok (.ret u), z => exact z
      | .error e, z => exact z)
theorem d_call0 (C : Bd X k E) (G : Cal X.prog X.w X.K X.mg X.base k x st [] ds) (hg : Gl X x) (hb : BindP x st [] 0) (hdb : (x == ("__debug__" : Str)) = false := by decide) :
    PE X (.Call (.Name x p) [] [] pos) (rd X.K X.mg E (wCall 0 ds aNil)) := by
  obtain ⟨f, fd, hm, ⟨⟨oc, od, kV, doc, pm, an, cdv, ct, osl, rfl, lk, hcd⟩, kp⟩, F⟩ := G.ex
  refine ⟨fun pins s σ H Q I ⟨ρ, F0, fps, Z, Qd, st0, hw, zc, kk⟩ => ?_⟩
  refine wpAny_Call_Name_kw (ld_glob I hg hm (PySem.W.callWith_K0 I.kIn kp (wpAny_call (codeAny_mono (run_g (us := []) (vs := []) (Q := Q) C F I (.of_eq (hb kV doc pm an cdv ct [] rfl)) .nil ?_) fun out s' z => ?_))) hdb)
  · exact sp_call st0 .nil rfl hw.2.1 hw.2.2 zc fun n v ρ' F' H' fps' fv g2 q2 => kk _ _ _ _ _ _ _ g2 q2
  · match out, z with
    | .ok (.ret u), z => exact z
    | .error e, z => exact z
theorem d_callK (C : Bd X k E) (G : Cal X.prog X.w X.K X.mg X.base k x st ps ds) (hg : Gl X x) (hb : BindK x st ps ks is n m) (hn : (sel is (List.range (n + m))).length = ps.length) (ha : PA X (e :: es) (ra X.K X.mg E ws)) (hkw : PK X kws (ra X.K X.mg E wk))
    (hall : (backToKw pos (keywordEach kws X.env)).all (·.1.isSome) = true := by rfl) (hks : (backToKw pos (keywordEach kws X.env)).filterMap (·.1) = ks := by rfl)
    (hdb : (x == ("__debug__" : Str)) = false := by decide) (he : starEach (e :: es) X.env = (false, eval e X.env) :: starEach es X.env := by rfl)
    (hpl : ((backTo pos (starEach (e :: es) X.env)).any (·.1) || (backToKw pos (keywordEach kws X.env)).any (·.1.isNone)) = false := by rfl) :
    PE X (.Call (.Name x p) (e :: es) kws pos) (rd X.K X.mg E (wCallK is n m ds ws wk)) := by
  obtain ⟨f, fd, hm, ⟨⟨oc, od, kV, doc, pm, an, cdv, ct, osl, rfl, lk, hcd⟩, kp⟩, F⟩ := G.ex
  refine ⟨fun pins s σ H Q I ⟨ρ, F0, fps, Z, Qd, st0, hw, zc, kk⟩ => ?_⟩
  refine wpAny_Call_Name_kw (ld_glob I hg hm (PySem.W.callWith_KW (h₀ := X.base) I.ok.mod.kin kp hall (thn (ha.run pos pins s σ H (fun vs H1 => ra X.K X.mg E wk σ H1 fun zs H2 => vs.length = n ∧ zs.length = m ∧ toSp X.K X.mg ps.length ds (sel is (vs ++ zs)) H2 Q (E σ)) I ?_) fun us s1 ⟨vs, H1, I1, r, q⟩ => ?_) hpl he) hdb)
  · refine ⟨ρ, F0, fps, Z, _, st0, hw, zc, fun as vs ρ1 F1 H1 fps1 g r q => ⟨ρ1, F1, fps1, Z, _, g.st, q, zc.step g, fun bs zs ρ2 F2 H2 fps2 g2 r2 q2 => ?_⟩⟩
    obtain ⟨h1, h2, nd, q2⟩ := q2
    have rr := sel_rel (relAr_app (r.mono g2.tr.grow) r2) is
    have l1 : vs.length = n := by rw [← relAr_len r]; exact h1
    have l2 : zs.length = m := by rw [← relAr_len r2]; exact h2
    refine ⟨l1, l2, sp_call g2.st rr ?_ nd q2 ((zc.step g).step g2) fun n v ρ' F' H' fps' fv g3 q3 => kk _ _ _ _ _ _ _ (.after (g.trans g2) g3) q3⟩
    rw [← hn]
    exact sel_len is (by simp [l1, l2])
  · refine thn (hkw.run pos pins s1 σ H1 _ I1 q) fun zs' s2 ⟨zs, H2, I2, rz, l1, l2, q2⟩ => ⟨I2.kIn, ?_⟩
    rw [hks]
    refine wpAny_call (codeAny_mono (run_g C F I2 (.of_eq (hb kV doc pm an cdv ct us zs' (by rw [← r.length]; exact l1) (by rw [← rz.length]; exact l2))) (sel_vals (r.append rz) is) q2) fun out s' z => ?_)
    match out, z with
    | .ok (.ret u), z => exact z
    | .error e, z => exact z
theorem d_callW (C : Bd X k E) (G : Cal X.prog X.w X.K X.mg X.base k x st ps ds) (hg : Gl X x) (hb : BindK x st ps ks is 0 m) (hn : (sel is (List.range m)).length = ps.length) (hkw : PK X kws (ra X.K X.mg E wk))
    (hall : (backToKw pos (keywordEach kws X.env)).all (·.1.isSome) = true := by rfl) (hks : (backToKw pos (keywordEach kws X.env)).filterMap (·.1) = ks := by rfl)
    (hdb : (x == ("__debug__" : Str)) = false := by decide)
    (hpl : ((backTo pos (starEach [] X.env)).any (·.1) || (backToKw pos (keywordEach kws X.env)).any (·.1.isNone)) = false := by rfl) :
    PE X (.Call (.Name x p) [] kws pos) (rd X.K X.mg E (wCallK is 0 m ds aNil wk)) := by
  obtain ⟨f, fd, hm, ⟨⟨oc, od, kV, doc, pm, an, cdv, ct, osl, rfl, lk, hcd⟩, kp⟩, F⟩ := G.ex
  refine ⟨fun pins s σ H Q I ⟨ρ, F0, fps, Z, Qd, st0, hw, zc, kk⟩ => ?_⟩
  refine wpAny_Call_Name_kw (ld_glob I hg hm (PySem.W.callWith_KW0 (h₀ := X.base) I.ok.mod.kin kp hall (thn (hkw.run pos pins s σ H (fun zs H2 => zs.length = m ∧ toSp X.K X.mg ps.length ds (sel is zs) H2 Q (E σ)) I ?_) fun zs' s2 ⟨zs, H2, I2, rz, l2, q2⟩ => ⟨I2.kIn, ?_⟩) hpl) hdb)
  · refine ⟨ρ, F0, fps, Z, _, st0, hw, zc, fun bs zs ρ2 F2 H2 fps2 g2 r2 q2 => ?_⟩
    obtain ⟨_, h2, nd, q2⟩ := q2
    have l2 : zs.length = m := by rw [← relAr_len r2]; exact h2
    refine ⟨l2, sp_call g2.st (sel_rel r2 is) ?_ nd q2 (zc.step g2) fun n v ρ' F' H' fps' fv g3 q3 => kk _ _ _ _ _ _ _ (.after g2 g3) q3⟩
    rw [← hn]
    exact sel_len is (by simp [l2])
  · rw [hks]
    refine wpAny_call (codeAny_mono (run_g C F I2 (.of_eq (hb kV doc pm an cdv ct [] zs' rfl (by rw [← rz.length]; exact l2))) (sel_vals rz is) q2) fun out s' z => ?_)
    match out, z with
    | .ok (.ret u), z => exact z
    | .error e, z => exact z
end
end DL

namespace DL
open PySem PySem.Spec PyProof.Rows L2
/-! ### the law's def, at the heap behind the top -/
section
variable {P : Program} {w : World} {K : PySem.W.Frag} {mg mb : Str → Option Value} {k : Nat} {fa a : Addr} {fd : FuncData} {x : Str} {ds : DSp} {s1 : Shared} {vs : List Value} {ns : List Int}
theorem sp_law {H : Hp} (hS : SqL K H a (ns.map V.int)) (h : ds [.v (.scr ns)] (fun n _ => n = .dat (.bool true)) fun _ _ => False) : toSp K mg 1 ds [.ref a] H (fun v _ => v = .bl true) fun _ _ _ => False := by
  refine ⟨rfl, [.v (.scr ns)], H, fun _ => Nil, _, _, ⟨⟨.refl _, fun b ⟨_, z⟩ => z.elim, fun b ⟨_, z⟩ => z.elim⟩, ⟨rfl, fun i n e => ?_, fun _ _ _ => rfl, fun _ _ _ _ z => z.elim⟩⟩, h, fun n v ρ' σ' F' H' fps' fv g q => ?_, fun _ _ _ _ _ _ _ _ _ _ z => z.elim⟩
  · match i with
    | 0 =>
      rcases e with e | e
      · cases e; exact ⟨.ref a, rfl, rfl, a, rfl, hS⟩
      · cases e
    | i + 1 => rcases e with e | e <;> simp at e
  · subst q
    obtain ⟨_, dq⟩ := g.rn
    cases dq
    rfl
/-- the promise, where H knows the script or nothing -/
theorem law_at {H : Hp} (kin : K.In s1.heap) (gl : s1.heap.Ns mainGlobals mg) (bl : s1.heap.Ns builtinsNs mb) (blt : ∀ x : Str, x ≠ "__name__" → mb x = bootBuiltins x) (lim : s1.heap.NoLimit) (hg : s1.gens = #[])
    (ha : s1.heap.get? a = some { cls := .type "list", data := .seq vs.toArray }) (room : Room k callerA) (F : ∀ base : Heap, K.In base → base.Ns mainGlobals mg → FnG P w K mg base k fa fd [x] (toSp K mg 1 ds)) (hb : ∀ (s : Shared) (u : Value), BindsTo s fd ⟨[u], []⟩ [(x, u)])
    (hd : ds [.v (.scr ns)] (fun n _ => n = .dat (.bool true)) fun _ _ => False) (hS : SqL K H a (ns.map V.int)) (ok : HOk P w H s1.heap) (hO : ∀ b u, H b = some u → b = a ∧ K.lookup a = none ∧ ∃ o xs, u = .frz o (.lst xs)) :
    codeAny (model P w) callerA (.call (.ref fa) ⟨[.ref a], []⟩) (fun r s' => r = .ok (.ret (.bool true)) ∧ OldK s1.heap s'.heap ∧ s'.os = s1.os ∧ AllBare s'.gens) s1 := by
  have none_of : ∀ {b : Addr}, b ≠ a → H b = none := fun {b} hb => by
    cases q : H b with
    | none => rfl
    | some u => exact absurd (hO b u q).1 hb
  have ns_of : ∀ {b : Addr} {m : Str → Option Value}, s1.heap.Ns b m → (hidT s1.heap H).Ns b m := fun {b m} ⟨o, es, ep, e, d, r⟩ => by
    refine ⟨o, es, ep, hidT_get e (none_of fun z => ?_), d, r⟩
    subst z
    rw [ha] at e
    cases e
    exact nomatch d
  have kb : K.In (hidT s1.heap H) := fun b o e => hidT_get (kin b o e) (by
    cases q : H b with
    | none => rfl
    | some u =>
      obtain ⟨e1, e2, _⟩ := hO b u q
      subst e1
      rw [e2] at e
      cases e)
  have md : Mod K mg (hidT s1.heap H) := ⟨kb, ns_of gl, ⟨mb, ns_of bl, blt⟩, let ⟨mc, h1, h2⟩ := lim; ⟨mc, ns_of h1, h2⟩⟩
  have e0 : Env0 P w K mg (hidT s1.heap H) callerA [] s1 H := ⟨rfl, md, fun b o e => of_hidT e, Nat.le_of_eq (hidT_size _ _), trivial, fun b z => (nomatch z), ok, .of_eq hg⟩
  refine codeAny_mono ((F _ kb (ns_of gl)).run callerA [] s1 H ⟨[.ref a], []⟩ [.ref a] [.ref a] _ _ room rfl e0 (hb s1 (.ref a)) (.cons rfl .nil) (sp_law hS hd)) fun out s' z => ?_
  match out, z with
  | .error e, ⟨_, _, _, _, _, _, _, _, _, _, _, _, z⟩ => exact z.elim
  | .ok (.ret u), ⟨v, H', os, bare, un, ok', r, q⟩ =>
    have q' : v = .bl true := q
    subst q'
    cases r
    refine ⟨rfl, OldK.of_keep fun b o e => ?_, os, bare⟩
    cases q : H b with
    | none => exact un.keep b o e q (fun z => (nomatch z)) fun z => (nomatch z)
    | some u =>
      obtain ⟨_, _, ob, xs, rfl⟩ := hO b u q
      obtain ⟨e1, _⟩ := ok b _ q
      obtain ⟨e2, _⟩ := ok' b _ (un.frzs b ob _ q)
      rw [e] at e1
      cases e1
      exact e2
theorem law_run (kin : K.In s1.heap) (gl : s1.heap.Ns mainGlobals mg) (bl : s1.heap.Ns builtinsNs mb) (blt : ∀ x : Str, x ≠ "__name__" → mb x = bootBuiltins x) (lim : s1.heap.NoLimit) (hg : s1.gens = #[])
    (ha : s1.heap.get? a = some { cls := .type "list", data := .seq vs.toArray }) (hi : IntsAre vs ns) (hl : ns.length ≤ sizeLine) (room : Room k callerA) (F : ∀ base : Heap, K.In base → base.Ns mainGlobals mg → FnG P w K mg base k fa fd [x] (toSp K mg 1 ds)) (hb : ∀ (s : Shared) (u : Value), BindsTo s fd ⟨[u], []⟩ [(x, u)])
    (hd : ds [.v (.scr ns)] (fun n _ => n = .dat (.bool true)) fun _ _ => False) :
    codeAny (model P w) callerA (.call (.ref fa) ⟨[.ref a], []⟩) (fun r s' => r = .ok (.ret (.bool true)) ∧ OldK s1.heap s'.heap ∧ s'.os = s1.os ∧ AllBare s'.gens) s1 := by
  have rv := vals_ints hi
  cases hk : K.lookup a with
  | some o =>
    have e := kin a o hk
    rw [ha] at e
    cases e
    refine law_at (H := fun _ => none) kin gl bl blt lim hg ha room F hb hd (.inr ⟨_, vs.toArray, _, hk, rfl, rfl, rfl, ?_, ?_⟩) (fun b u z => nomatch z) fun b u z => nomatch z
    · rw [List.size_toArray, hi.length]; exact hl
    · exact rv
  | none =>
    have at_ : ∀ {b : Addr} {u : HO}, (fun b => if b = a then some (HO.frz { cls := .type "list", data := .seq vs.toArray } (.lst (ns.map V.int))) else none) b = some u → b = a ∧ u = .frz { cls := .type "list", data := .seq vs.toArray } (.lst (ns.map V.int)) := fun {b u} z => by
      by_cases hb : b = a
      · simp only [hb, if_true, Option.some.injEq] at z; exact ⟨hb, z.symm⟩
      · simp only [hb, if_false] at z; cases z
    refine law_at (H := fun b => if b = a then some (.frz { cls := .type "list", data := .seq vs.toArray } (.lst (ns.map V.int))) else none) kin gl bl blt lim hg ha room F hb hd (.inl (.inr ⟨_, if_pos rfl⟩)) (fun b u z => ?_) fun b u z => ?_
    · obtain ⟨rfl, rfl⟩ := at_ z
      exact ⟨ha, by rw [List.length_map]; exact hl, vs, _, rv, ha⟩
    · obtain ⟨rfl, rfl⟩ := at_ z
      exact ⟨rfl, hk, _, _, rfl⟩
end
/-- the goal behind the head (case hc) -/
theorem law_goal {l : PySem.W.OpenLaw} {n k : Nat} {q : Program} {loose : List Str} {XP : (Str → Option Value) → Heap → Prop} {YP : World → Heap → Prop} {d : DefRec} {K : Params → PySem.W.Frag} {ds : DSp} {x : Str}
    (hn : l.most = some n) (hn2 : n ≤ sizeLine) (hdf : d.params.defaults = []) (room : Room k callerA) (hY : ∀ (w : World) (h : Heap), YP w h → (K w.params).In h)
    (F : ∀ (w : World) (mg : Str → Option Value) (fa : Addr) (h : Heap), (K w.params).In h → h.Ns mainGlobals mg → mg d.name = some (.ref fa) →
      ∃ fd : FuncData, (∀ (s : Shared) (u : Value), BindsTo s fd ⟨[u], []⟩ [(x, u)]) ∧ ∀ base : Heap, (K w.params).In base → base.Ns mainGlobals mg → FnG l.prog w (K w.params) mg base k fa fd [x] (toSp (K w.params) mg 1 ds))
    (hd : ∀ ns : List Int, ns.length ≤ n → ds [.v (.scr ns)] (fun n _ => n = .dat (.bool true)) fun _ _ => False) :
    PySem.W.WalkO q loose XP YP l.row.toRowW d [] (fun f vs => PySem.call f vs) :=
  Att.attach_call hn hdf fun w s0 s1 mg mb fa o pm cd doc a vs ns G Y ho hd' hcd hmg hobj hints hlen hg => by
    obtain ⟨fd, hb, hF⟩ := F w mg fa _ (hY w _ Y) G.T.g hmg
    exact law_run (hY w _ Y) G.T.g G.T.b G.T.builtins G.T.nolimit hg hobj hints (Nat.le_trans hlen hn2) room hF hb (hd ns hlen)
end DL

namespace DL
open PySem PySem.Spec PyProof.Rows L2
section
variable {X : Cx} {E : EX} {e : Expr} {w : WX} {pos : Pos}
/-! ### truth -/
def tru (d : PyData) (k : Bool → Prop) : Prop := match d with
  | .none => k false
  | .bool b => k b
  | .int i => k (i != 0)
  | .str z => z.length ≤ 100000 ∧ k ((z.length : Int) != 0)
  | .list xs => k (!xs.isEmpty)
  | .tuple xs => k (!xs.isEmpty)
  | .dict _ => False
def wTr (w : WX) : WT := fun Z ρ Q => w Z ρ fun a ρ1 => lkD ρ1 a fun d => tru d fun b => Q b ρ1
theorem t_tru (h : PE X e (rx X.K X.mg E w)) (he : ∀ whole, isTrue e X.env whole = (do let v ← whole; standAt e.pos; holding [v] (truthy v)) := by intro _; rfl) : PT X e (rt X.K X.mg E (wTr w)) :=
  pt_imp (pt_truth h he) fun σ H Q ⟨ρ, F, fps, Z, Qd, st, hw, zc, k⟩ => ⟨ρ, F, fps, Z, _, st, hw, zc, fun a v ρ1 F1 H1 fps1 g ra q => by
    obtain ⟨d, q, l⟩ := lk_rel g.st.rs ra q
    cases d with
    | none => obtain rfl := l.non; exact ⟨false, rfl, k _ _ _ _ _ g q⟩
    | bool b => obtain rfl := l.bl; exact ⟨b, rfl, k _ _ _ _ _ g q⟩
    | int i => obtain rfl := l.int; exact ⟨_, rfl, k _ _ _ _ _ g q⟩
    | str z =>
      cases l with
      | d dq => cases dq; exact ⟨_, ⟨sz5 q.1, rfl⟩, k _ _ _ _ _ g q.2⟩
    | list xs =>
      obtain ⟨p, vs, rfl, h, t⟩ := lstH g.st.wf.sub l
      have ev : vs.isEmpty = xs.isEmpty := by cases t <;> rfl
      exact ⟨!vs.isEmpty, .inl ⟨vs, SqL.of h, rfl⟩, by rw [ev]; exact k _ _ _ _ _ g q⟩
    | tuple xs =>
      obtain ⟨p, vs, rfl, _, h, t⟩ := tupH g.st.wf.sub l
      have ev : vs.isEmpty = xs.isEmpty := by cases t <;> rfl
      exact ⟨!vs.isEmpty, .inr (.inl ⟨vs, h, rfl⟩), by rw [ev]; exact k _ _ _ _ _ g q⟩
    | dict _ => exact q.elim⟩
/-! ### break, continue -/
def sBrk : WS := fun _ D ρ => D.bk ρ
def sCnt : WS := fun _ D ρ => D.ct ρ
theorem s_brk : PS X (.Break pos) (rs X.K X.mg E sBrk) := ps_imp ps_break fun D σ H h => by
  obtain ⟨ρ, F, fps, Z, DD, st, sc, hw⟩ := rs_open h
  exact (sc.s _ _ _ _ _ (.refl st)).2.1 hw
theorem s_cnt : PS X (.Continue pos) (rs X.K X.mg E sCnt) := ps_imp ps_continue fun D σ H h => by
  obtain ⟨ρ, F, fps, Z, DD, st, sc, hw⟩ := rs_open h
  exact (sc.s _ _ _ _ _ (.refl st)).2.2 hw
/-! ### the script: len(script), script[i:j] -/
def scrD (ρ : En) (i : Nat) (k : List Int → Prop) : Prop := match ρ[i]? with
  | some (.v (.scr ns)) => k ns
  | some (.p (.scr ns)) => k ns
  | _ => False
theorem scrD_of {K : PySem.W.Frag} {F H : Hp} {ρ : En} {σ : Sg} {fps : Nat → Addr → Prop} {i : Nat} {k : List Int → Prop} (r : RelS K F H ρ σ fps) (h : scrD ρ i k) : ∃ ns a, σ[i]? = some (some (.ref a)) ∧ SqL K F a (ns.map V.int) ∧ k ns := by
  unfold scrD at h
  split at h
  · rename_i ns e
    obtain ⟨v, hv, _, a, rfl, q⟩ := r.rel i _ (.inl e)
    exact ⟨ns, a, hv, q, h⟩
  · rename_i ns e
    obtain ⟨v, hv, _, a, rfl, q⟩ := r.rel i _ (.inr e)
    exact ⟨ns, a, hv, q, h⟩
  · exact h.elim
def wScrLen (i : Nat) : WE := fun _ ρ Q => scrD ρ i fun ns => Q (.dat (.int ns.length)) ρ
def wScrTo (i : Nat) (wu : WO) : WE := fun Z ρ Q => scrD ρ i fun _ => wu Z ρ fun hi ρ1 => scrD ρ1 i fun ns => Q (.lst ((cutD ns none hi).map .int)) ρ1
variable {x : Str} {p p1 p2 : Pos} {i : Nat}
theorem d_scrLen (hx : PE X (.Name x p) (tVar i)) (hg : Gl X "len") (hm : X.mg "len" = none)
    (he : starEach [.Name x p] X.env = (false, eval (.Name x p) X.env) :: starEach [] X.env := by rfl) : PE X (.Call (.Name "len" p1) [.Name x p] [] pos) (rd X.K X.mg E (wScrLen i)) :=
  pe_imp (pe_callB call_len_seq hg hm PySem.boot_len (pa_cons hx pa_nil he) (by decide) (by decide) he (by rfl)) fun σ H Q ⟨ρ, F, fps, Z, Qd, st, hw, zc, k⟩ => by
    obtain ⟨ns, a, hv, q, h⟩ := scrD_of st.rs hw
    exact ⟨.ref a, hv, a, _, rfl, .inl (st.wf.sub.seq q), k _ _ _ _ _ _ _ (.here st (by rw [List.length_map]; exact .int _)) h⟩
theorem cutV_map (ns : List Int) (lo hi : Option Int) : cutV (ns.map V.int) lo hi = (cutD ns lo hi).map V.int := by
  unfold cutV cutD
  rw [List.length_map, List.map_take, List.map_drop]
theorem d_scrTo {hi : Option Expr} {wu : WO} (hx : PE X (.Name x p) (tVar i)) (hu : PO X hi (ro X.K X.mg E wu)) : PE X (.Subscript (.Name x p) (.Slice none hi none p2) pos) (rd X.K X.mg E (wScrTo i wu)) :=
  pe_imp (pe_slice sl_list hx po_none hu) fun σ H Q ⟨ρ, F, fps, Z, Qd, st, hw, zc, k⟩ => by
    obtain ⟨_, a, hv, _, hw⟩ := scrD_of st.rs hw
    refine ⟨.ref a, hv, ρ, F, fps, Z, _, st, hw, zc, fun u ρ1 F1 H1 fps1 g h => ?_⟩
    obtain ⟨ns, a', hv', q, h⟩ := scrD_of g.st.rs h
    rw [hv] at hv'
    cases hv'
    refine ⟨a, _, rfl, g.st.wf.sub.seq q, fun r hr => k _ _ _ _ _ _ _ (.after g (.lst g.st hr ?_)) h⟩
    rw [cutV_map]
    exact DqAll.of_ints _
/-! ### name op= e, of ints -/
def sAug (i : Nat) (o : O2) (w : WX) : WS := fun Z D ρ => hasT ρ i ∧ w Z ρ fun a ρ1 => lkD ρ1 (.o i) fun x => lkD ρ1 a fun y => o x y fun n => notP ρ1 i ∧ D.nx (ρ1.set i (.v n))
end
end DL

namespace DL
open PySem PySem.Spec PyProof.Rows L2
abbrev oSub : O2 := oI0 (· - ·)
abbrev oDiv : O2 := oI CDiv (· / ·)
abbrev oMod : O2 := oI (fun _ j => 0 < j) (· % ·)
abbrev oPow : O2 := oI CPow fun i j => i ^ j.toNat
abbrev oShl : O2 := oI CPow fun i j => i * 2 ^ j.toNat
abbrev oShr : O2 := oI (fun _ j => 0 ≤ j) fun i j => i / 2 ^ j.toNat
abbrev oAnd : O2 := oI0 Builtin.bitAnd
abbrev oOr : O2 := oI0 Builtin.bitOr
/-! ### order -/
/-- two data that can be put in order -/
def ordD (x y : PyData) : Prop := PySem.W.alike x y = true ∧ x ≠ .none ∧ x.depth ≤ 50
def oLt : O2 := fun x y k => match x, y with
  | .int i, .int j => k (.dat (.bool (decide (i < j))))
  | x, y => ordD x y ∧ k (.dat (.bool (PySem.W.dataLt x y)))
def oGt : O2 := fun x y k => match x, y with
  | .int i, .int j => k (.dat (.bool (decide (j < i))))
  | x, y => ordD x y ∧ k (.dat (.bool (PySem.W.dataLt y x)))
def oLe : O2 := fun x y k => match x, y with
  | .int i, .int j => k (.dat (.bool (decide (i ≤ j))))
  | x, y => ordD x y ∧ k (.dat (.bool (!PySem.W.dataLt y x)))
def oGe : O2 := fun x y k => match x, y with
  | .int i, .int j => k (.dat (.bool (decide (j ≤ i))))
  | x, y => ordD x y ∧ k (.dat (.bool (!PySem.W.dataLt x y)))
section
variable {X : Cx}
theorem opd_ord {f : Value → Value → Sem Value} {gi : Int → Int → Bool} {gd : PyData → PyData → Bool} (hi : OpR X f (rI0 fun i j => .bl (gi i j)))
    (hd : ∀ (s : Shared) (a b : Value) (da db : PyData) (as bs : List Addr) (Q : Value → Shared → Prop) (E : Value → Shared → Prop), Reads s.heap a da as → Reads s.heap b db bs → ordD da db → Q (.bool (gd da db)) s → wpAny (model X.prog X.w) X.A (f a b) Q E s) :
    OpD X f fun x y k => match x, y with
      | .int i, .int j => k (.dat (.bool (gi i j)))
      | x, y => ordD x y ∧ k (.dat (.bool (gd x y))) := by
  refine ⟨fun x y H Q => rI0 (fun i j => .bl (gi i j)) x y H Q ∨ ∃ F d e, Same F H ∧ Dq X.K F x d ∧ Dq X.K F y e ∧ ordD d e ∧ Q (.bl (gd d e)) H, ?_, ?_⟩
  · intro pins s σ H x y v u Q I rx ry h
    rcases h with h | ⟨F, d, e, sf, q1, q2, ho, q⟩
    · exact hi pins s σ H x y v u Q I rx ry h
    · obtain ⟨as, r1⟩ := Dq.reads I sf d x v q1 rx
      obtain ⟨bs, r2⟩ := Dq.reads I sf e y u q2 ry
      exact hd s v u d e as bs _ _ r1 r2 ho ⟨.bl _, H, I, rfl, q⟩
  · intro F H d1 d2 v1 v2 k Q' s q1 q2 ho go
    split at ho
    · obtain rfl := q1.int
      obtain rfl := q2.int
      exact .inl ⟨_, _, rfl, rfl, go _ _ _ _ _ .datB ho⟩
    · obtain ⟨F'', _, s', p1, p2⟩ := fz2 s q1 q2
      exact .inr ⟨F'', _, _, s', p1, p2, ho.1, go _ _ _ _ _ .datB ho.2⟩
theorem opd_ltD (hu : X.A.units + 64 < cLine) : OpD X (compareOp .Lt) oLt := opd_ord (gi := fun i j => decide (i < j)) (gd := fun x y => PySem.W.dataLt x y) op_lt fun s a b da db as bs Q E r1 r2 ho h => PySem.W.lt_data r1 r2 ho.1 ho.2.1 (by have := ho.2.2; omega) h
theorem opd_gtD (hu : X.A.units + 64 < cLine) : OpD X (compareOp .Gt) oGt := opd_ord (gi := fun i j => decide (j < i)) (gd := fun x y => PySem.W.dataLt y x) op_gt fun s a b da db as bs Q E r1 r2 ho h => PySem.W.gt_data r1 r2 ho.1 ho.2.1 (by have := ho.2.2; omega) h
theorem opd_leD (hu : X.A.units + 64 < cLine) : OpD X (compareOp .LtE) oLe := opd_ord (gi := fun i j => decide (i ≤ j)) (gd := fun x y => !PySem.W.dataLt y x) op_le fun s a b da db as bs Q E r1 r2 ho h => PySem.W.le_data r1 r2 ho.1 ho.2.1 (by have := ho.2.2; omega) h
theorem opd_geD (hu : X.A.units + 64 < cLine) : OpD X (compareOp .GtE) oGe := opd_ord (gi := fun i j => decide (j ≤ i)) (gd := fun x y => !PySem.W.dataLt x y) op_ge fun s a b da db as bs Q E r1 r2 ho h => PySem.W.ge_data r1 r2 ho.1 ho.2.1 (by have := ho.2.2; omega) h
end
theorem bd_of {P : Program} {w : World} {K : PySem.W.Frag} {mg : Str → Option Value} {base : Heap} {N ps : List Str} {qual : Str} {sc : Scope} {f : Addr} {cdv : Value} {A : Around} {outer : List Env} {s : Shared} {H : Hp} {E : XK} {k : Nat}
    (room : Room k (A.deeper (envOfC qual sc s.heap.objs.size f cdv))) (hg : A.guards = some []) (S : FnScope N ps sc) : Bd (cxOf (L2.CX P w) P w K mg base N qual sc f cdv A outer s H E) k (fun _ => E) :=
  ⟨room, hg, S.nd, rfl, fun σ => passAt (W := fun cls d _ H => E cls d H) (takes_of (E := E) rfl rfl rfl rfl) σ, passes_of rfl, takes_of (E := E) rfl rfl rfl rfl⟩
theorem Cal.mono {P : Program} {w : World} {K : PySem.W.Frag} {mg : Str → Option Value} {base : Heap} {j k : Nat} {x : Str} {st : Stmt} {ps : List Str} {ds : DSp} (C : Cal P w K mg base j x st ps ds) (h : j ≤ k) : Cal P w K mg base k x st ps ds :=
  let ⟨f, fd, a, b, c⟩ := C.ex
  ⟨f, fd, a, b, c.mono h⟩
theorem cal_mk {P : Program} {w : World} {K : PySem.W.Frag} {mg : Str → Option Value} {base h : Heap} {k : Nat} {x : Str} {st : Stmt} {ps : List Str} {ds : DSp} {f : Addr} {oc : Value} {od an : Option Addr} {osl : Array (Option Value)} {kV doc pm cdv ct : Value} (Xk : K.In h) (G : h.Ns mainGlobals mg)
    (a : PySem.W.nsIn K mainGlobals x = some (some (.ref f))) (l : K.lookup f = some ⟨oc, od, .func (PySem.W.fnOf x x (defArgs st) (defBody st) (defScope st) .none kV doc pm an cdv ct), osl⟩)
    (c : PySem.W.codeIn K cdv x = true) (kp : PySem.W.keepIn K (.ref f) = true) (ok : ∀ {f : Addr} {fd : FuncData}, Fun K x x st f fd → FnG P w K mg base k f fd ps (toSp K mg ps.length ds)) : Cal P w K mg base k x st ps ds :=
  have F := fun_mk (st := st) l c kp
  ⟨f, _, PySem.W.mg_of Xk G a, F, ok F⟩
end DL

namespace DL
open PySem PySem.Spec PyProof.Rows L2
/-! ### the pot [[cells], mixed, count] -/
def potL : Res where
  rel := fun v H fp => ∃ (a b : Addr) (m c : Int) (cs : List Int), v = .ref a ∧ a ≠ b ∧ fp = Or2 (One a) (One b) ∧ H a = some (.lst [.ref b, .int m, .int c]) ∧ H b = some (.lst (cs.map V.int)) ∧ cs.length ≤ 63
  stay := fun {v H H' fp} ⟨a, b, m, c, cs, e1, e2, e3, e4, e5, e6⟩ k => ⟨a, b, m, c, cs, e1, e2, e3, by rw [k a (by rw [e3]; exact .inl rfl)]; exact e4, by rw [k b (by rw [e3]; exact .inr rfl)]; exact e5, e6⟩
  dom := fun {v H fp} ⟨a, b, m, c, cs, e1, e2, e3, e4, e5, e6⟩ d hd => by
    rw [e3] at hd
    rcases hd with z | z
    · rw [show d = a from z, e4]; exact fun q => nomatch q
    · rw [show d = b from z, e5]; exact fun q => nomatch q
  nt := fun {v H fp} ⟨a, b, m, c, cs, e1, e2, e3, e4, e5, e6⟩ d hd xs => by
    rw [e3] at hd
    rcases hd with z | z
    · rw [show d = a from z, e4]; exact fun q => nomatch q
    · rw [show d = b from z, e5]; exact fun q => nomatch q
/-- [xs, i, j], xs an own list of ints -/
def wPotL (ws : WNs) : WE := fun Z ρ Q => ws Z ρ fun ns ρ1 => match ns with
  | [.lst ds, .dat (.int _), .dat (.int _)] => (intsD ds fun cs => cs.length ≤ 63) ∧ Q (.res potL) ρ1
  | _ => False
section
variable {X : Cx} {E : EX} {es : List Expr} {ws : WNs} {pos : Pos}
theorem d_potL (h : PA X es (rna X.K X.mg E ws)) : PE X (.List es pos) (rd X.K X.mg E (wPotL ws)) := pe_imp (pe_lst h) fun σ H Q ⟨ρ, F, fps, Z, Qd, st, hw, zc, k⟩ => by
  refine ⟨ρ, F, fps, Z, _, st, hw, zc, fun L ρ1 F1 H1 fps1 g q => ?_⟩
  match L, g, q with
  | [(.lst ds, v, f1), (.dat (.int m), v2, f2), (.dat (.int c), v3, f3)], g, q =>
    obtain ⟨⟨cs, rfl, hl⟩, q⟩ := q
    obtain ⟨b, vs, e1, e2, e3, dq⟩ := g.rn _ List.mem_cons_self
    obtain ⟨e4, d2⟩ := g.rn (.dat (.int m), v2, f2) (by simp)
    obtain ⟨e5, d3⟩ := g.rn (.dat (.int c), v3, f3) (by simp)
    have ev := dq.ints
    subst ev
    cases e1
    cases d2
    cases d3
    refine ⟨by show 3 ≤ sizeLine; decide, fun p hp => k (.res potL) (.ref p) ρ1 F1 (upd H1 p (.lst [.ref b, .int m, .int c])) fps1 (Or2 (One p) (One b)) ?_ q⟩
    have ob : One b = f1 := e2.symm
    have npb : ∀ {x : Addr}, Or2 (Ow fps1) (OwL [(DL.N.lst (cs.map .int), V.ref b, f1), (.dat (.int m), .int m, f2), (.dat (.int c), .int c, f3)]) x → x ≠ p := fun {x} hx z => g.wf.dom x hx (by rw [z]; exact hp)
    have hb : b ≠ p := npb (.inr (.inl (by show f1 b; rw [← ob]; rfl)))
    have o1 : ∀ {x : Addr}, Or2 (One p) (One b) x → x = p ∨ (Or2 (Ow fps1) (OwL [(DL.N.lst (cs.map .int), V.ref b, f1), (.dat (.int m), .int m, f2), (.dat (.int c), .int c, f3)]) x) := fun {x} hx => hx.elim .inl fun z => .inr (.inr (.inl (by show f1 x; rw [← ob]; exact z)))
    refine ⟨⟨g.tr.grow, g.tr.new, fun x o e no => ?_, fun x z => ?_⟩, ⟨fun x o e => ?_, fun x z => ?_, fun x z => ?_⟩, g.rs.stay (.refl _) fun x hx => upd_ne (npb (.inl hx)), g.pk, ⟨p, b, m, c, cs, rfl, Ne.symm hb, rfl, upd_same, by rw [upd_ne hb]; exact e3, hl⟩, fun x hx z => ?_⟩
    · have h1 := g.tr.keep x o e no
      rw [upd_ne (ne_of_none h1 hp)]; exact h1
    · rcases z with z | z
      · exact g.tr.sub x (.inl z)
      · rcases o1 z with z | z
        · subst z
          by_cases hO : Ow fps x
          · exact .inl hO
          · right
            cases e : H x with
            | none => rfl
            | some o => rw [g.tr.keep x o e hO] at hp; cases hp
        · exact g.tr.sub x z
    · have h1 := g.wf.sub x o e
      rw [upd_ne (ne_of_none h1 hp)]; exact h1
    · rcases z with z | z
      · exact g.wf.out x (.inl z)
      · rcases o1 z with z | z
        · subst z
          cases e : F1 x with
          | none => rfl
          | some o => rw [g.wf.sub x o e] at hp; cases hp
        · exact g.wf.out x z
    · by_cases hx : x = p
      · rw [hx, upd_same]; exact fun q => nomatch q
      · rw [upd_ne hx]
        rcases z with z | z
        · exact g.wf.dom x (.inl z)
        · rcases o1 z with z | z
          · exact absurd z hx
          · exact g.wf.dom x z
    · rcases o1 hx with e | e
      · exact npb (.inl z) e
      · rcases hx with hx | hx
        · exact npb (.inl z) hx
        · exact g.ap x (.inl (by show f1 x; rw [← ob]; exact hx)) z
  | [], _, q => exact q.elim
end
end DL

namespace DL
open PySem PySem.Spec PyProof.Rows L2
theorem Sta.res {K : PySem.W.Frag} {F H H' : Hp} {ρ : En} {σ : Sg} {fps : Nat → Addr → Prop} {i : Nat} {r : Res} {v : V} (s : Sta K F H ρ σ fps) (h : ρ[i]? = some (.p (.res r))) (hv : σ[i]? = some (some v)) (e : ∀ x, ¬ fps i x → H' x = H x) (rel : r.rel v H' (fps i)) : GotS K ρ σ F H fps ρ σ F H' fps := by
  have off : ∀ {b : Addr}, ¬ Ow fps b → H' b = H b := fun {b} no => e b fun z => no ⟨i, z⟩
  refine ⟨⟨.refl _, fun b h h' => absurd h h', fun b o q no => by rw [off no]; exact q, fun b z => .inl z⟩, ⟨⟨fun b o q => ?_, s.wf.out, fun b ⟨j, z⟩ => ?_⟩, ⟨s.rs.len, fun j n q => ?_, s.rs.emp, s.rs.dis⟩⟩, .refl⟩
  · rw [off fun z => by rw [s.wf.out b z] at q; cases q]; exact s.wf.sub b o q
  · by_cases ej : j = i
    · subst ej; exact r.dom rel b z
    · rw [e b fun z2 => s.rs.dis j i b ej z z2]; exact s.wf.dom b ⟨j, z⟩
  · by_cases ej : j = i
    · subst ej
      rw [h] at q
      rcases q with q | q
      · cases q
      · cases q; exact ⟨v, hv, rel⟩
    · obtain ⟨u, h1, h2⟩ := s.rs.rel j n q
      exact ⟨u, h1, h2.stay (.refl _) fun a ha => e a fun z2 => s.rs.dis j i a ej ha z2⟩
def rNeD (K : PySem.W.Frag) : R2 := fun x y H Q => ∃ F d e, Same F H ∧ Dq K F x d ∧ Dq K F y e ∧ SeqAt.shaped d = true ∧ SeqAt.shaped e = true ∧ Q (.bl (!PyData.eqv d e)) H
theorem op_neF {X : Cx} (hu : X.A.units + 64 < cLine) : OpR X (compareOp .NotEq) (rNeD X.K) := fun pins s σ H x y v u Q I rx ry ⟨F, d, e, sf, hd, he, sd, se, q⟩ => by
  obtain ⟨as, r1⟩ := Dq.reads I sf d x v hd rx
  obtain ⟨bs, r2⟩ := Dq.reads I sf e y u he ry
  exact SeqAt.compareNe_shaped r1 r2 sd se hu ⟨.bl _, H, I, rfl, q⟩
theorem lay_ints : ∀ cs : List Int, PyData.canLayAll0 (cs.map PyData.int) = true ∧ PyData.depthAll (cs.map PyData.int) = 0
  | [] => ⟨rfl, rfl⟩
  | c :: cs => by
    obtain ⟨h1, h2⟩ := lay_ints cs
    refine ⟨?_, ?_⟩
    · show (PyData.canLay0 (.int c) && PyData.canLayAll0 (cs.map PyData.int)) = true
      rw [h1]; rfl
    · show max (PyData.depth (.int c)) (PyData.depthAll (cs.map PyData.int)) = 0
      rw [h2]; rfl
/-- a draw from many -/
def Drawn (many r : Int) : Prop := 0 ≤ r ∧ (r < many ∨ (many < 1 ∧ r = 0))
def dspDraw (pot : Res) : DSp := fun args R _ => ∃ many : Int, args = [.p (.res pot), .v (.dat (.int many))] ∧ many < 1073741824 ∧ ∀ r, Drawn many r → R (.dat (.int r)) args
abbrev iLt : R2 := rI0 fun i j => .bl (decide (i < j))
abbrev iGe : R2 := rI0 fun i j => .bl (decide (j ≤ i))
abbrev iAdd : R2 := rI0 fun i j => .int (i + j)
abbrev iMul : R2 := rI CMul fun i j => .int (i * j)
abbrev iDiv : R2 := rI CDiv fun i j => .int (i / j)
abbrev iMod : R2 := rI (fun _ j => 0 < j) fun i j => .int (i % j)
abbrev vI (i : Int) : TE := tC (.int i)
def tLof (K : PySem.W.Frag) : TS :=
  tSeq (tIfS (tTest (tOp iLt (tVar 1) (vI 2))) (tRet (vI 0)) tNext)
  (tSeq (tIfS (tTest (tOp (rNeD K) (tOp (rIx K) (tVar 0) (vI 0)) (tLst tNil)))
    (tSeq (tAsg (tBM0 K "list" rPop (tOp (rIx K) (tVar 0) (vI 0))) (gName 2))
      (tSeq (tIfS (tTest (tOp iGe (tVar 2) (tVar 1))) (tDrop (tBM K "list" rAppend (tOp (rIx K) (tVar 0) (vI 0)) (tCons (tOp iDiv (tVar 2) (tVar 1)) tNil))) tNext)
        (tRet (tOp iMod (tVar 2) (tVar 1))))) tNext)
  (tSeq (tAsg (tOp iAdd (tOp (rIx K) (tVar 0) (vI 2)) (vI 1)) (gSub (tVar 0) (vI 2) rSetL))
  (tSeq (tAsg (tOp iMod (tOp iAdd (tOp (rIx K) (tVar 0) (vI 1)) (tOp iMul (tOp (rIx K) (tVar 0) (vI 2)) (vI 2654435761))) (vI 4294967279)) (gName 3))
  (tSeq (tAsg (tOp iMod (tOp iAdd (tOp iAdd (tOp iMul (tVar 3) (tVar 3)) (tOp iMul (tOp (rIx K) (tVar 0) (vI 2)) (vI 40503))) (vI 5)) (vI 4294967231)) (gName 3))
  (tSeq (tAsg (tOp iMod (tOp iAdd (tOp iMul (tVar 3) (tVar 3)) (tOp (rIx K) (tVar 0) (vI 1))) (vI 4294967291)) (gName 3))
  (tRet (tOp iMod (tOp iDiv (tVar 3) (vI 256)) (tVar 1))))))))
section
variable {K : PySem.W.Frag} {mg : Str → Option Value}
theorem ix0 {H : Hp} {a : Addr} {xs : List V} {i : Int} {v : V} {Q : VK} (h : H a = some (.lst xs)) (e : atI xs i = some v) (q : Q v H) : rIx K (.ref a) (.int i) H Q := .inl ⟨a, xs, i, v, rfl, rfl, SqL.of h, e, q⟩
theorem shaped_list (cs : List Int) : SeqAt.shaped (.list (cs.map PyData.int)) = true := by
  obtain ⟨h1, h2⟩ := lay_ints cs
  have e1 : PyData.canLay0 (.list (cs.map PyData.int)) = true := h1
  have e2 : PyData.depth (.list (cs.map PyData.int)) = 1 := by show PyData.depthAll _ + 1 = 1; rw [h2]
  unfold SeqAt.shaped
  rw [e1, e2]
  rfl
theorem eqv_nil (cs : List Int) : PyData.eqv (.list (cs.map PyData.int)) (.list []) = cs.isEmpty := by
  cases cs <;> rfl
theorem mod_small {i m : Int} (h : 0 < m) (hm : m < 2 ^ 64) : -(2 ^ 64) < i % m ∧ i % m < 2 ^ 64 := ⟨by have := Int.emod_nonneg i (Int.ne_of_gt h); omega, by have := Int.emod_lt_of_pos i h; omega⟩
theorem lof_spec {vs : List V} {H : Hp} {Q : VK} {E : XK} (h : toSp K mg 2 (dspDraw potL) vs H Q E) : tLof K { nx := fun _ H' => Q .non H', rt := Q } (L2.start ["pot", "many", "cell", "number"] vs) H := by
  obtain ⟨hl, args, F, fps, R, Z, sta, ⟨many, rfl, hm, hr⟩, q, _⟩ := h
  obtain ⟨v0, v1, rfl⟩ : ∃ v0 v1, vs = [v0, v1] := by
    match vs, hl with
    | [v0, v1], _ => exact ⟨v0, v1, rfl⟩
  obtain ⟨u0, e0, a, b, m, c, cs, rfl, hab, hf, ha, hb, hc⟩ := sta.rs.rel 0 _ (.inr rfl)
  obtain ⟨u1, e1, _, d1⟩ := sta.rs.rel 1 _ (.inl rfl)
  cases e0
  cases e1
  cases d1
  have fin : ∀ {H' : Hp} {r : Int}, (∀ x, ¬ Or2 (One a) (One b) x → H' x = H x) → potL.rel (.ref a) H' (Or2 (One a) (One b)) → Drawn many r → Q (.int r) H' := fun {H' r} e rel dr =>
    q _ _ _ _ _ _ _ _ (Got.of (sta.res (i := 0) (v := .ref a) rfl rfl (by rw [hf]; exact e) (by rw [hf]; exact rel)) (.int r)) (hr r dr)
  have same : potL.rel (.ref a) H (Or2 (One a) (One b)) := ⟨a, b, m, c, cs, rfl, hab, rfl, ha, hb, hc⟩
  show tLof K _ [some (.ref a), some (.int many), none, none] H
  refine ⟨.int many, rfl, many, 2, rfl, rfl, _, rfl, ?_⟩
  by_cases h2 : many < 2
  · rw [decide_eq_true h2]
    exact iteT (fin (fun _ _ => rfl) same ⟨by decide, by omega⟩)
  rw [decide_eq_false h2]
  refine iteF ?_
  -- pot[0] != []
  refine ⟨.ref a, rfl, ix0 ha (i := 0) rfl ⟨Nat.zero_le _, fun p hp => ?_⟩⟩
  have hpb : b ≠ p := ne_of_none hb hp
  have hpa : a ≠ p := ne_of_none ha hp
  refine ⟨upd H p (.lst []), .list (cs.map .int), .list [], .refl _, .lst (by rw [upd_ne hpb]; exact hb) (DqAll.of_ints cs), .lst upd_same .nil, shaped_list cs, rfl, _, rfl, ?_⟩
  rw [eqv_nil]
  have g1 := sta.alloc (o := HO.lst []) hp
  have ha1 : upd H p (.lst []) a = some (.lst [.ref b, .int m, .int c]) := by rw [upd_ne hpa]; exact ha
  have hb1 : upd H p (.lst []) b = some (.lst (cs.map V.int)) := by rw [upd_ne hpb]; exact hb
  generalize upd H p (.lst []) = H1 at g1 ha1 hb1
  have fin1 : ∀ {H' : Hp} {r : Int}, (∀ x, ¬ Or2 (One a) (One b) x → H' x = H1 x) → potL.rel (.ref a) H' (Or2 (One a) (One b)) → Drawn many r → Q (.int r) H' := fun {H' r} e rel dr =>
    q _ _ _ _ _ _ _ _ (Got.of (g1.trans (g1.st.res (i := 0) (v := .ref a) rfl rfl (by rw [hf]; exact e) (by rw [hf]; exact rel))) (.int r)) (hr r dr)
  have mod : ∀ n : Int, Drawn many (n % many) := fun n => ⟨Int.emod_nonneg n (by omega), .inl (Int.emod_lt_of_pos n (by omega))⟩
  cases cs with
  | nil =>
    refine iteF ?_
    -- pot[2] = pot[2] + 1
    refine ⟨.ref a, rfl, ix0 ha1 (i := 2) rfl ⟨c, 1, rfl, rfl, .ref a, rfl, a, _, 2, 2, rfl, rfl, ha1, rfl, ?_⟩⟩
    have ha2 : upd H1 a (.lst [.ref b, .int m, .int (c + 1)]) a = some (.lst [.ref b, .int m, .int (c + 1)]) := upd_same
    have rel2 : potL.rel (.ref a) (upd H1 a (.lst [.ref b, .int m, .int (c + 1)])) (Or2 (One a) (One b)) := ⟨a, b, m, c + 1, [], rfl, hab, rfl, ha2, by rw [upd_ne (Ne.symm hab)]; exact hb1, hc⟩
    have off2 : ∀ x, ¬ Or2 (One a) (One b) x → upd H1 a (.lst [.ref b, .int m, .int (c + 1)]) x = H1 x := fun x hx => upd_ne fun z => hx (.inl z)
    show tSeq _ _ _ _ (upd H1 a (.lst [.ref b, .int m, .int (c + 1)]))
    generalize upd H1 a (.lst [.ref b, .int m, .int (c + 1)]) = H2 at ha2 rel2 off2
    refine ⟨.ref a, rfl, ix0 ha2 (i := 1) rfl ⟨.ref a, rfl, ix0 ha2 (i := 2) rfl ⟨c + 1, 2654435761, rfl, rfl, .inr ⟨by decide, by decide⟩, m, _, rfl, rfl, _, 4294967279, rfl, rfl, (by show (0 : Int) < 4294967279; decide), ?_⟩⟩⟩
    show tSeq _ _ _ [some (.ref a), some (.int many), none, some (.int ((m + (c + 1) * 2654435761) % 4294967279))] H2
    have b1 := mod_small (i := m + (c + 1) * 2654435761) (m := 4294967279) (by decide) (by decide)
    generalize (m + (c + 1) * 2654435761) % 4294967279 = n1 at b1
    refine ⟨.int n1, rfl, .int n1, rfl, n1, n1, rfl, rfl, .inl b1, .ref a, rfl, ix0 ha2 (i := 2) rfl ⟨c + 1, 40503, rfl, rfl, .inr ⟨by decide, by decide⟩, _, _, rfl, rfl, _, 5, rfl, rfl, _, 4294967231, rfl, rfl, (by show (0 : Int) < 4294967231; decide), ?_⟩⟩
    show tSeq _ _ _ [some (.ref a), some (.int many), none, some (.int ((n1 * n1 + (c + 1) * 40503 + 5) % 4294967231))] H2
    have b2 := mod_small (i := n1 * n1 + (c + 1) * 40503 + 5) (m := 4294967231) (by decide) (by decide)
    generalize (n1 * n1 + (c + 1) * 40503 + 5) % 4294967231 = n2 at b2
    refine ⟨.int n2, rfl, .int n2, rfl, n2, n2, rfl, rfl, .inl b2, .ref a, rfl, ix0 ha2 (i := 1) rfl ⟨_, m, rfl, rfl, _, 4294967291, rfl, rfl, (by show (0 : Int) < 4294967291; decide), ?_⟩⟩
    refine ⟨_, rfl, _, 256, rfl, rfl, ⟨by decide, by decide⟩, .int many, rfl, _, many, rfl, rfl, by omega, ?_⟩
    exact fin1 off2 rel2 (mod _)
  | cons c0 cs0 =>
    refine iteT ?_
    -- cell = pot[0].pop()
    have hl : ((c0 :: cs0).map V.int).length = cs0.length + 1 := by simp
    have hlast : ((c0 :: cs0).map V.int)[((c0 :: cs0).map V.int).length - 1]? = some (.int ((c0 :: cs0).getLast (List.cons_ne_nil _ _))) := by
      rw [← List.getLast?_eq_getElem?, List.getLast?_map, List.getLast?_eq_getLast (List.cons_ne_nil c0 cs0)]; rfl
    refine ⟨.ref a, rfl, ix0 ha1 (i := 0) rfl ⟨.inl ⟨rfl, _, SqL.of hb1⟩, b, _, _, rfl, rfl, hb1, hlast, ?_⟩⟩
    generalize (c0 :: cs0).getLast (List.cons_ne_nil _ _) = cell
    have ed : ((c0 :: cs0).map V.int).dropLast = (c0 :: cs0).dropLast.map V.int := by rw [List.map_dropLast]
    have hl2 : (c0 :: cs0).dropLast.length ≤ 62 := by rw [List.length_dropLast]; simp only [List.length_cons] at hc ⊢; omega
    rw [ed]
    generalize (c0 :: cs0).dropLast = cs at hl2
    have hb2 : upd H1 b (.lst (cs.map V.int)) b = some (.lst (cs.map V.int)) := upd_same
    have ha2 : upd H1 b (.lst (cs.map V.int)) a = some (.lst [.ref b, .int m, .int c]) := by rw [upd_ne hab]; exact ha1
    have off2 : ∀ x, ¬ Or2 (One a) (One b) x → upd H1 b (.lst (cs.map V.int)) x = H1 x := fun x hx => upd_ne fun z => hx (.inr z)
    show tSeq _ _ _ _ (upd H1 b (.lst (cs.map V.int)))
    generalize upd H1 b (.lst (cs.map V.int)) = H2 at ha2 hb2 off2
    refine ⟨.int cell, rfl, .int many, rfl, cell, many, rfl, rfl, _, rfl, ?_⟩
    by_cases hge : many ≤ cell
    · rw [decide_eq_true hge]
      refine iteT ⟨.ref a, rfl, ix0 ha2 (i := 0) rfl ⟨.inl ⟨rfl, _, SqL.of hb2⟩, .int cell, rfl, .int many, rfl, cell, many, rfl, rfl, ⟨by omega, hm⟩, b, _, _, rfl, rfl, hb2, ?_, ?_⟩⟩
      · rw [List.length_map]; exact Nat.lt_of_le_of_lt hl2 (by decide)
      · refine ⟨.int cell, rfl, .int many, rfl, cell, many, rfl, rfl, by omega, ?_⟩
        refine fin1 (fun x hx => ?_) ⟨a, b, m, c, cs ++ [cell / many], rfl, hab, rfl, by rw [upd_ne hab]; exact ha2, by rw [upd_same, List.map_append]; rfl, by rw [List.length_append]; simp only [List.length_cons, List.length_nil]; omega⟩ (mod _)
        rw [upd_ne fun z => hx (.inr z)]; exact off2 x hx
    · rw [decide_eq_false hge]
      refine iteF ⟨.int cell, rfl, .int many, rfl, cell, many, rfl, rfl, by omega, ?_⟩
      exact fin1 off2 ⟨a, b, m, c, cs, rfl, hab, rfl, ha2, hb2, by omega⟩ (mod _)
end
end DL

namespace DL
open PySem PySem.Spec PyProof.Rows L2
/-! ### comprehensions that change nothing -/
theorem lc_filtL {α : Type} {vs : List Nat} {g : WG} {tt : WT} {te : WE} {Q : DL.N → En → Prop} (enc : α → PyData) (f : α → Option PyData) : ∀ (l : List α) {ρ : En} {acc : List PyData}, vsOk ρ vs →
    (∀ a ∈ l, ∀ (k : PyData → En → Prop) (kn : En → Prop), (∀ e, f a = some e → k e ρ) → (f a = none → kn ρ) → g (enc a) (wipeE ρ vs) fun ρ2 => tt Z0 ρ2 fun b ρ3 => if b = true then te Z0 ρ3 fun n ρ4 => asD n fun e => k e (restE ρ vs ρ4) else kn (restE ρ vs ρ3)) →
    acc.length + l.length < 100000 → Q (.lst (acc ++ l.filterMap f)) ρ → lcLoop vs g tt te Q (l.map enc) ρ acc
  | [], ρ, acc, _, _, _, q => by
    rw [List.filterMap_nil, List.append_nil] at q
    exact q
  | d :: ds, ρ, acc, ok, h, hl, q => by
    rw [List.length_cons] at hl
    refine ⟨ok, h d List.mem_cons_self (fun e ρ' => acc.length < 100000 ∧ lcLoop vs g tt te Q (ds.map enc) ρ' (acc ++ [e])) (fun ρ' => lcLoop vs g tt te Q (ds.map enc) ρ' acc) (fun e he => ⟨by omega, ?_⟩) fun hn => ?_⟩
    · refine lc_filtL enc f ds ok (fun d hd => h d (List.mem_cons_of_mem _ hd)) (by rw [List.length_append]; simp only [List.length_cons, List.length_nil]; omega) ?_
      rw [List.append_assoc]
      rw [List.filterMap_cons, he] at q
      exact q
    · refine lc_filtL enc f ds ok (fun d hd => h d (List.mem_cons_of_mem _ hd)) (by omega) ?_
      rw [List.filterMap_cons, hn] at q
      exact q
/-- with a test: p a says whether, f a what -/
theorem lc_if {α : Type} {vs : List Nat} {g : WG} {tt : WT} {te : WE} {Q : DL.N → En → Prop} {enc : α → PyData} (p : α → Bool) (f : α → PyData) {l : List α} {ρ : En} (ok : vsOk ρ vs)
    (h : ∀ a ∈ l, ∀ (k : PyData → En → Prop) (kn : En → Prop), (p a = true → k (f a) ρ) → (p a = false → kn ρ) → g (enc a) (wipeE ρ vs) fun ρ2 => tt Z0 ρ2 fun b ρ3 => if b = true then te Z0 ρ3 fun n ρ4 => asD n fun e => k e (restE ρ vs ρ4) else kn (restE ρ vs ρ3))
    (hl : l.length < 100000) (q : Q (.lst ((l.filter p).map f)) ρ) : lcLoop vs g tt te Q (l.map enc) ρ [] := by
  refine lc_filtL enc (fun a => if p a = true then some (f a) else none) l ok (fun a ha k kn h1 h2 => h a ha k kn (fun hp => h1 _ (if_pos hp)) fun hp => h2 (if_neg (by rw [hp]; exact Bool.false_ne_true))) (by simpa using hl) ?_
  have e : l.filterMap (fun a => if p a = true then some (f a) else none) = (l.filter p).map f := by
    clear h hl q
    induction l with
    | nil => rfl
    | cons a l ih =>
      rw [List.filterMap_cons, List.filter_cons]
      by_cases hp : p a = true
      · simp only [hp, if_true, List.map_cons, ih]
      · simp only [hp, if_false, ih, Bool.false_eq_true]
  rw [e]
  exact q
theorem lc_map {α : Type} {vs : List Nat} {g : WG} {te : WE} {Q : DL.N → En → Prop} {enc : α → PyData} (f : α → PyData) {l : List α} {ρ : En} (ok : vsOk ρ vs)
    (h : ∀ a ∈ l, ∀ (k : PyData → En → Prop), k (f a) ρ → g (enc a) (wipeE ρ vs) fun ρ2 => te Z0 ρ2 fun n ρ4 => asD n fun e => k e (restE ρ vs ρ4)) (hl : l.length < 100000) (q : Q (.lst (l.map f)) ρ) : lcLoop vs g wYes te Q (l.map enc) ρ [] := by
  refine lc_if (fun _ => true) f ok (fun a ha k kn h1 h2 => ?_) hl (by rw [List.filter_eq_self.mpr fun _ _ => rfl]; exact q)
  have := h a ha k (h1 rfl)
  simpa only [wYes, if_true] using this
/-- over the data as they are -/
theorem lc_mapD {vs : List Nat} {g : WG} {te : WE} {Q : DL.N → En → Prop} (f : PyData → PyData) {l : List PyData} {ρ : En} (ok : vsOk ρ vs)
    (h : ∀ a ∈ l, ∀ (k : PyData → En → Prop), k (f a) ρ → g a (wipeE ρ vs) fun ρ2 => te Z0 ρ2 fun n ρ4 => asD n fun e => k e (restE ρ vs ρ4)) (hl : l.length < 100000) (q : Q (.lst (l.map f)) ρ) : lcLoop vs g wYes te Q l ρ [] := by
  have := lc_map (enc := id) f ok h hl q
  rwa [List.map_id] at this
/-- whatever is drawn: what is told holds of each item -/
theorem lc_all {α : Type} {vs : List Nat} {g : WG} {te : WE} {Q : DL.N → En → Prop} {enc : α → PyData} (P : PyData → Prop) : ∀ {l : List α} {ρ : En} {acc : List PyData}, vsOk ρ vs →
    (∀ a ∈ l, ∀ (k : PyData → En → Prop), (∀ e, P e → k e ρ) → g (enc a) (wipeE ρ vs) fun ρ2 => te Z0 ρ2 fun n ρ4 => asD n fun e => k e (restE ρ vs ρ4)) → acc.length + l.length < 100000 →
    (∀ es : List PyData, es.length = l.length → (∀ e ∈ es, P e) → Q (.lst (acc ++ es)) ρ) → lcLoop vs g wYes te Q (l.map enc) ρ acc
  | [], ρ, acc, _, _, _, q => by
    have := q [] rfl (fun _ h => nomatch h)
    rw [List.append_nil] at this
    exact this
  | a :: l, ρ, acc, ok, h, hl, q => by
    rw [List.length_cons] at hl
    refine ⟨ok, ?_⟩
    have z := h a List.mem_cons_self (fun e ρ' => acc.length < 100000 ∧ lcLoop vs g wYes te Q (l.map enc) ρ' (acc ++ [e])) fun e he => ⟨by omega, lc_all P ok (fun a ha => h a (List.mem_cons_of_mem _ ha)) (by rw [List.length_append]; simp only [List.length_cons, List.length_nil]; omega) fun es h1 h2 => ?_⟩
    · simpa only [wYes, if_true] using z
    · have := q (e :: es) (by rw [List.length_cons, List.length_cons, h1]) fun x hx => (List.mem_cons.mp hx).elim (fun e' => by subst e'; exact he) fun hx => h2 x hx
      rw [List.append_assoc]
      exact this
/-- .. and each may be left out -/
theorem lc_any {α : Type} {vs : List Nat} {g : WG} {tt : WT} {te : WE} {Q : DL.N → En → Prop} {enc : α → PyData} (P : PyData → Prop) : ∀ {l : List α} {ρ : En} {acc : List PyData}, vsOk ρ vs →
    (∀ a ∈ l, ∀ (k : PyData → En → Prop) (kn : En → Prop), (∀ e, P e → k e ρ) → kn ρ → g (enc a) (wipeE ρ vs) fun ρ2 => tt Z0 ρ2 fun b ρ3 => if b = true then te Z0 ρ3 fun n ρ4 => asD n fun e => k e (restE ρ vs ρ4) else kn (restE ρ vs ρ3)) → acc.length + l.length < 100000 →
    (∀ es : List PyData, es.length ≤ l.length → (∀ e ∈ es, P e) → Q (.lst (acc ++ es)) ρ) → lcLoop vs g tt te Q (l.map enc) ρ acc
  | [], ρ, acc, _, _, _, q => by
    have := q [] (Nat.le_refl _) (fun _ h => nomatch h)
    rw [List.append_nil] at this
    exact this
  | a :: l, ρ, acc, ok, h, hl, q => by
    rw [List.length_cons] at hl
    refine ⟨ok, h a List.mem_cons_self (fun e ρ' => acc.length < 100000 ∧ lcLoop vs g tt te Q (l.map enc) ρ' (acc ++ [e])) (fun ρ' => lcLoop vs g tt te Q (l.map enc) ρ' acc) (fun e he => ⟨by omega, ?_⟩) ?_⟩
    · refine lc_any P ok (fun a ha => h a (List.mem_cons_of_mem _ ha)) (by rw [List.length_append]; simp only [List.length_cons, List.length_nil]; omega) fun es h1 h2 => ?_
      have := q (e :: es) (by rw [List.length_cons, List.length_cons]; omega) fun x hx => (List.mem_cons.mp hx).elim (fun e' => by subst e'; exact he) fun hx => h2 x hx
      rw [List.append_assoc]
      exact this
    · exact lc_any P ok (fun a ha => h a (List.mem_cons_of_mem _ ha)) (by omega) fun es h1 h2 => q es (by rw [List.length_cons]; omega) h2
/-- a list of data each an int that has p is the list of such ints -/
theorem ints_of {p : Int → Prop} : ∀ {es : List PyData}, (∀ e ∈ es, ∃ i, e = .int i ∧ p i) → ∃ xs : List Int, es = xs.map .int ∧ ∀ x ∈ xs, p x
  | [], _ => ⟨[], rfl, fun _ h => nomatch h⟩
  | e :: es, h => by
    obtain ⟨i, rfl, hi⟩ := h e List.mem_cons_self
    obtain ⟨xs, rfl, hx⟩ := ints_of fun e he => h e (List.mem_cons_of_mem _ he)
    exact ⟨i :: xs, rfl, fun x hx' => (List.mem_cons.mp hx').elim (fun e' => by subst e'; exact hi) (hx x)⟩
/-! ### one statement at a time -/
theorem seq_step {a b : WS} {Z : KX} {D : DE} {ρ : En} (h : ∀ K : En → Prop, (∀ ρ', b Z D ρ' → K ρ') → a Z { D with nx := K } ρ) : sSeq a b Z D ρ := h (b Z D) fun _ q => q
theorem if_step {c : WT} {a b : WS} {Z : KX} {D : DE} {ρ : En} (h : ∀ Ka Kb : En → Prop, (∀ ρ', a Z D ρ' → Ka ρ') → (∀ ρ', b Z D ρ' → Kb ρ') → c Z ρ fun k ρ1 => if k = true then Ka ρ1 else Kb ρ1) : sIf c a b Z D ρ := h (a Z D) (b Z D) (fun _ q => q) fun _ q => q
theorem for_step {wi : WI} {g : WG} {b : WS} {Z : KX} {D : DE} {ρ : En} (h : ∀ K : List PyData → En → Prop, (∀ ds ρ', wLoop Z D g b ds ρ' → K ds ρ') → wi Z ρ K) : sFor wi g b Z D ρ := h (wLoop Z D g b) fun _ _ q => q
/-- a loop with an invariant -/
theorem loop_inv {Z : KX} {D : DE} {g : WG} {b : WS} (P : En → Prop) (step : ∀ (d : PyData) (ρ : En) (K : En → Prop), P ρ → (∀ ρ', P ρ' → K ρ') → g d ρ fun ρ1 => b Z { D with nx := K, ct := K, bk := D.nx } ρ1) (fin : ∀ ρ, P ρ → D.nx ρ) : ∀ (ds : List PyData) (ρ : En), P ρ → wLoop Z D g b ds ρ
  | [], ρ, h => fin ρ h
  | d :: ds, ρ, h => step d ρ (wLoop Z D g b ds) h fun ρ' h' => loop_inv P step fin ds ρ' h'
theorem loop_invL {α : Type} {Z : KX} {D : DE} {g : WG} {b : WS} (enc : α → PyData) (P : En → Prop) : ∀ (l : List α), (∀ a ∈ l, ∀ (ρ : En) (K : En → Prop), P ρ → (∀ ρ', P ρ' → K ρ') → g (enc a) ρ fun ρ1 => b Z { D with nx := K, ct := K, bk := D.nx } ρ1) → (∀ ρ, P ρ → D.nx ρ) → ∀ ρ : En, P ρ → wLoop Z D g b (l.map enc) ρ
  | [], _, fin, ρ, h => fin ρ h
  | a :: l, step, fin, ρ, h => step a List.mem_cons_self ρ (wLoop Z D g b (l.map enc)) h fun ρ' h' => loop_invL enc P l (fun a ha => step a (List.mem_cons_of_mem _ ha)) fin ρ' h'
end DL

namespace DL
open PySem PySem.Spec PyProof.Rows L2
/-! ### what may be shown and compared -/
mutual
/-- ints below 2^64, texts, no dict -/
def okI : PyData → Bool
  | .none | .bool _ => true
  | .int i => decide (i.natAbs < 2 ^ 200)
  | .str x => PyData.strOk x
  | .list xs | .tuple xs => okIs xs
  | .dict _ => false
def okIs : List PyData → Bool
  | [] => true
  | x :: xs => okI x && okIs xs
end
theorem log_of {n k : Nat} (h : n < 2 ^ k) (hk : 0 < k) : n.log2 < k := by
  by_cases h0 : n = 0
  · subst h0; exact hk
  · exact (Nat.log2_lt h0).mpr h
mutual
theorem okI_all : ∀ d : PyData, okI d = true → d.showable = true ∧ d.hasDict = false ∧ d.leavesShort 210 = true ∧ d.canLay0 = true
  | .none, _ => ⟨rfl, rfl, rfl, rfl⟩
  | .bool _, _ => ⟨rfl, rfl, rfl, rfl⟩
  | .int i, h => by
    have h := log_of (of_decide_eq_true h) (by decide)
    refine ⟨decide_eq_true (Nat.lt_trans h (by decide)), rfl, decide_eq_true ?_, rfl⟩
    have e := int_text_length_le (a := i) (k := 200) (by decide) h
    show (Str.ofString (toString i)).length ≤ 210
    rw [PySem.ofString_length]
    omega
  | .str x, h => by
    refine ⟨rfl, rfl, ?_, h⟩
    have h' : x.cps.all (· < 0x110000) = true := h
    rw [Array.all_eq_true_iff_forall_mem] at h'
    show (x.cps.toList.all fun c => decide (c < 16 ^ 8)) = true
    rw [List.all_eq_true]
    intro c hc
    have := of_decide_eq_true (h' c (Array.mem_toList_iff.mp hc))
    exact decide_eq_true (by omega)
  | .list xs, h => okIs_all xs h
  | .tuple xs, h => okIs_all xs h
  | .dict _, h => by cases h
theorem okIs_all : ∀ xs : List PyData, okIs xs = true → PyData.showableAll xs = true ∧ PyData.hasDictAll xs = false ∧ PyData.leavesShortAll 210 xs = true ∧ PyData.canLayAll0 xs = true
  | [], _ => ⟨rfl, rfl, rfl, rfl⟩
  | x :: xs, h => by
    have h' := Bool.and_eq_true_iff.mp h
    obtain ⟨a1, a2, a3, a4⟩ := okI_all x h'.1
    obtain ⟨b1, b2, b3, b4⟩ := okIs_all xs h'.2
    refine ⟨?_, ?_, ?_, ?_⟩
    · show (PyData.showable x && PyData.showableAll xs) = true
      rw [a1, b1]; rfl
    · show (PyData.hasDict x || PyData.hasDictAll xs) = false
      rw [a2, b2]; rfl
    · show (PyData.leavesShort 210 x && PyData.leavesShortAll 210 xs) = true
      rw [a3, b3]; rfl
    · show (PyData.canLay0 x && PyData.canLayAll0 xs) = true
      rw [a4, b4]; rfl
end
theorem rep_ok {d : PyData} (h : okI d = true) (hd : d.depth ≤ 100) (hb : d.bulk ≤ 70000) : repOk d := by
  obtain ⟨h1, h2, h3, _⟩ := okI_all d h
  refine ⟨h1, .inl h2, hd, ?_⟩
  have := PyData.shown_le_bulk 210 (by decide) d h3
  rw [sizeLine_eq]
  omega
theorem shaped_ok {d : PyData} (h : okI d = true) (hd : d.depth ≤ 64) : SeqAt.shaped d = true := by
  unfold SeqAt.shaped
  rw [(okI_all d h).2.2.2, decide_eq_true hd]
  rfl
/-! lists of ints -/
def smI (xs : List Int) : Prop := ∀ x ∈ xs, x.natAbs < 2 ^ 64
theorem okI_i : ∀ {xs : List Int}, smI xs → okIs (xs.map PyData.int) = true
  | [], _ => rfl
  | x :: xs, h => by
    show (okI (.int x) && okIs (xs.map PyData.int)) = true
    rw [okI_i fun y hy => h y (List.mem_cons_of_mem _ hy), show okI (.int x) = true from decide_eq_true (Nat.lt_trans (h x List.mem_cons_self) (by decide))]
    rfl
theorem bulk_i : ∀ xs : List Int, PyData.bulkAll (xs.map PyData.int) = xs.length
  | [] => rfl
  | x :: xs => by
    show PyData.bulk (.int x) + 1 + PyData.bulkAll (xs.map PyData.int) = xs.length + 1
    rw [bulk_i xs]
    show 0 + 1 + xs.length = xs.length + 1
    omega
theorem atD_nat {α : Type} {ds : List α} {i : Nat} {k : α → Prop} (h : i < ds.length) : atD ds (i : Int) k = k ds[i] := by
  unfold atD
  rw [atI_nat (List.getElem?_eq_getElem h)]
theorem atD_i {xs : List Int} {i : Nat} {k : PyData → Prop} (h : i < xs.length) : atD (xs.map PyData.int) (i : Int) k = k (.int xs[i]) := by
  rw [atD_nat (by rw [List.length_map]; exact h), List.getElem_map]
theorem eqv_self {d : PyData} (h : okI d = true) : PyData.eqv d d = true := SeqAt.eqv_refl d (okI_all d h).2.2.2
theorem zip_i (xs ys : List Int) : zipD (xs.map .int) (ys.map .int) = (List.zip xs ys).map fun p => .tuple [.int p.1, .int p.2] := by
  unfold zipD
  induction xs generalizing ys with
  | nil => rfl
  | cons x xs ih =>
    cases ys with
    | nil => rfl
    | cons y ys => rw [List.map_cons, List.map_cons, List.zipWith_cons_cons, List.zip_cons_cons, List.map_cons, ih]
theorem enum_i (xs : List Int) : enumD (xs.map .int) = xs.zipIdx.map fun p => .tuple [.int (p.2 : Int), .int p.1] := by
  unfold enumD
  rw [List.zipIdx_map, List.map_map]
  rfl
theorem any_int {i : Int} : ∀ xs : List Int, ((xs.map PyData.int).any fun z => PyData.eqv z (.int i)) = decide (i ∈ xs)
  | [] => rfl
  | x :: xs => by
    rw [List.map_cons, List.any_cons, any_int xs]
    show ((x == i) || decide (i ∈ xs)) = decide (i ∈ x :: xs)
    by_cases e : x = i
    · subst e; simp
    · have e' : i ≠ x := fun z => e z.symm
      simp [e, e']
end DL

namespace DL
open PySem PySem.Spec PyProof.Rows L2
/-! ### isinstance(x, T) -/
def isaD : String → Option (PyData → Bool)
  | "int" => some PyData.isInt
  | "bool" => some PyData.isBool
  | "tuple" => some PyData.isTuple
  | "list" => some PyData.isList
  | "str" => some PyData.isStr
  | "dict" => some PyData.isDict
  | _ => none
def wIsa (f : PyData → Bool) (w : WX) : WE := fun Z ρ Q => w Z ρ fun a ρ1 => lkD ρ1 a fun d => Q (.dat (.bool (f d))) ρ1
section
variable {X : Cx} {E : EX} {e : Expr} {w : WX} {p p1 p2 pos : Pos} {T : String}
theorem call_isaD {f : PyData → Bool} (hf : isaD T = some f) : CallR X (.builtin "isinstance") (fun xs H Q => ∃ F x d, xs = [x, .ty T] ∧ Same F H ∧ Dq X.K F x d ∧ Q (.bl (f d)) H) := by
  rintro pins s σ H xs us Q I r ⟨F, x, d, rfl, sf, q, h⟩
  obtain ⟨u1, u2, rfl, r1, r2⟩ := vals2 r
  obtain rfl : u2 = .type T := r2
  obtain ⟨as, rd⟩ := Dq.reads I sf d x u1 q r1
  have fin : ∀ tk, s.toks ≤ tk → EP X pins σ Q (.bool (f d)) { s with toks := tk } := fun tk _ => ⟨.bl _, H, I.tok tk, rfl, h⟩
  unfold isaD at hf
  split at hf
  · cases hf; exact PySem.W.isinstance_int_data rd fin
  · cases hf; exact PySem.W.isinstance_bool_data rd fin
  · cases hf; exact PySem.W.isinstance_tuple_data rd fin
  · cases hf; exact PySem.W.isinstance_list_data rd fin
  · cases hf; exact PySem.W.isinstance_str_data rd fin
  · cases hf; exact PySem.W.isinstance_dict_data rd fin
  · cases hf
theorem d_isa {f : PyData → Bool} (hf : isaD T = some f) (hg : Gl X "isinstance") (hm : X.mg "isinstance" = none) (hv : bootBuiltins "isinstance" = some (.builtin "isinstance")) {y : Str} (hg2 : Gl X y) (hm2 : X.mg y = none) (hv2 : bootBuiltins y = some (.type T)) (ha : PE X e (rx X.K X.mg E w)) (hn : y ≠ "__name__" := by decide) (hd : (y == ("__debug__" : Str)) = false := by decide)
    (he : starEach [e, .Name y p2] X.env = (false, eval e X.env) :: starEach [.Name y p2] X.env := by rfl) (he2 : starEach [.Name y p2] X.env = (false, eval (.Name y p2) X.env) :: starEach [] X.env := by rfl) (hpl : (backTo pos (starEach [.Name y p2] X.env)).any (·.1) = false := by rfl) :
    PE X (.Call (.Name "isinstance" p1) [e, .Name y p2] [] pos) (rd X.K X.mg E (wIsa f w)) :=
  pe_imp (pe_callB (call_isaD hf) hg hm hv (pa_cons ha (pa_cons (pe_bltn hg2 hm2 hv2 (v := .ty T) rfl hn hd) pa_nil he2) he) (by decide) (by decide) he hpl) fun σ H Q ⟨ρ, F, fps, Z, Qd, st, hw, zc, k⟩ => ⟨ρ, F, fps, Z, _, st, hw, zc, fun a v ρ1 F1 H1 fps1 g ra q => by
    obtain ⟨d, q, l⟩ := lk_rel g.st.rs ra q
    obtain ⟨F2, _, s2, dq⟩ := l.fz g.st.wf.sub
    exact ⟨F2, v, d, rfl, s2, dq, k _ _ _ _ _ _ _ (.after g (.here g.st (.bl _))) q⟩⟩
/-! ### a module's int -/
theorem d_gI {x : Str} {i : Int} (hg : Gl X x) (hm : ∃ t, X.mg x = some (.int i t)) (hd : (x == ("__debug__" : Str)) = false := by decide) : PE X (.Name x pos) (rd X.K X.mg E (wC (.int i))) :=
  let ⟨t, h⟩ := hm
  pe_imp (pe_glob hg h (v := .int i) ⟨t, rfl⟩ hd) (rd_const fun _ => .int i)
end
/-! ### a module's dict of ints by ints -/
def KIn : List DictEntry → List (Int × Int) → Prop
  | [], [] => True
  | e :: es, (k, v) :: r => (∃ t, e.key = .int k t) ∧ e.hash = hashInt k ∧ (∃ t, e.val = Value.int v t) ∧ KIn es r
  | _, _ => False
/-- at d, the table tab -/
def KTab (K : PySem.W.Frag) (d : Addr) (tab : List (Int × Int)) : Prop := ∃ (es : Array DictEntry) (n : Nat), K.lookup d = some ⟨.type "dict", none, .dict es n, #[]⟩ ∧ KIn es.toList tab ∧ (d == sysModules) = false
theorem KIn.keys : ∀ {es : List DictEntry} {tab : List (Int × Int)}, KIn es tab → ∀ e ∈ es, ∃ k t, e.key = .int k t ∧ e.hash = hashInt k
  | e :: es, (k, v) :: r, ⟨⟨t, h1⟩, h2, _, h⟩, x, hx => by
    rcases List.mem_cons.mp hx with rfl | hx
    · exact ⟨k, t, h1, h2⟩
    · exact KIn.keys h x hx
  | [], _, _, _, h => nomatch h
  | _ :: _, [], h, _, _ => h.elim
theorem KIn.find {i : Int} : ∀ {es : List DictEntry} {tab : List (Int × Int)}, KIn es tab → match tab.lookup i with
    | some v => ∃ t, ((es.find? fun d => Value.isInt i d.key).map (·.val)) = some (.int v t)
    | none => ((es.find? fun d => Value.isInt i d.key).map (·.val)) = none
  | [], [], _ => rfl
  | e :: es, (k, v) :: r, ⟨⟨t, h1⟩, h2, ⟨t2, h3⟩, h⟩ => by
    have hk : Value.isInt i e.key = (i == k) := by rw [h1]; show (k == i) = (i == k); rw [Bool.eq_iff_iff]; simp; exact eq_comm
    rw [List.lookup_cons, List.find?_cons, hk]
    cases q : i == k with
    | true => exact ⟨t2, by simp [h3]⟩
    | false => exact KIn.find h
  | [], _ :: _, h => h.elim
  | _ :: _, [], h => h.elim
section
variable {X : Cx} {E : EX} {e : Expr} {w : WX} {p pos : Pos} {x : Str} {d : Addr} {tab : List (Int × Int)}
theorem KTab.map {h : Heap} {prog : Program} {w : World} {K : PySem.W.Frag} (k : K.In h) (T : KTab K d tab) : ∃ es : Array DictEntry, KIn es.toList tab ∧ h.MapOf (intKind prog w) d (fun i => findBy Value.isInt es i) := by
  obtain ⟨es, n, hl, hk, _⟩ := T
  refine ⟨es, hk, _, es, n, k _ _ hl, ⟨rfl, rfl, rfl⟩, rfl, fun e he => ?_, fun _ => rfl⟩
  obtain ⟨i, t, e1, e2⟩ := hk.keys e (Array.mem_toList_iff.mpr he)
  exact ⟨i, by rw [e1]; exact intKind_is prog w i t, e2⟩
theorem find_at {es : Array DictEntry} {i : Int} (h : KIn es.toList tab) : match tab.lookup i with
    | some v => ∃ t, findBy Value.isInt es i = some (.int v t)
    | none => findBy Value.isInt es i = none := by
  have := KIn.find (i := i) h
  obtain ⟨l⟩ := es
  unfold findBy
  rw [List.find?_toArray]
  exact this
def wInG (tab : List (Int × Int)) (g : Bool → Bool) (w : WX) : WE := fun Z ρ Q => w Z ρ fun a ρ1 => lkD ρ1 a fun y => match y with
  | .int i => Q (.dat (.bool (g (tab.lookup i).isSome))) ρ1
  | _ => False
theorem op_inT (T : KTab X.K d tab) : OpR X (compareOp .In) (fun x y H Q => ∃ i : Int, x = .int i ∧ y = .ref d ∧ Q (.bl (tab.lookup i).isSome) H) := by
  rintro pins s σ H x y v u Q I rx ry ⟨i, rfl, rfl, q⟩
  obtain ⟨t, rfl⟩ := rx
  cases ry
  obtain ⟨es, hk, hm⟩ := T.map (prog := X.prog) (w := X.w) I.kIn
  obtain ⟨_, _, _, _, low⟩ := T
  refine wpAny_in_of (intKind_is X.prog X.w i t) low hm ?_
  have := find_at (i := i) hk
  cases e : tab.lookup i with
  | some v => rw [e] at this q; obtain ⟨_, h⟩ := this; rw [h]; exact ⟨.bl _, H, I.tok _, rfl, q⟩
  | none => rw [e] at this q; rw [this]; exact ⟨.bl _, H, I.tok _, rfl, q⟩
theorem op_notInT (T : KTab X.K d tab) : OpR X (compareOp .NotIn) (fun x y H Q => ∃ i : Int, x = .int i ∧ y = .ref d ∧ Q (.bl (!(tab.lookup i).isSome)) H) := by
  rintro pins s σ H x y v u Q I rx ry ⟨i, rfl, rfl, q⟩
  obtain ⟨t, rfl⟩ := rx
  cases ry
  obtain ⟨es, hk, hm⟩ := T.map (prog := X.prog) (w := X.w) I.kIn
  obtain ⟨_, _, _, _, low⟩ := T
  refine wpAny_notIn_of (intKind_is X.prog X.w i t) low hm ?_
  have := find_at (i := i) hk
  cases e : tab.lookup i with
  | some v => rw [e] at this q; obtain ⟨_, h⟩ := this; rw [h]; exact ⟨.bl _, H, I.tok _, rfl, q⟩
  | none => rw [e] at this q; rw [this]; exact ⟨.bl _, H, I.tok _, rfl, q⟩
theorem inG_road {r : R2} (g : Bool → Bool) (hr : r = fun x y H Q => ∃ i : Int, x = .int i ∧ y = .ref d ∧ Q (.bl (g (tab.lookup i).isSome)) H) : ∀ σ H Q, rd X.K X.mg E (wInG tab g w) σ H Q → tOp r (rx X.K X.mg E w) (tC (.ref d)) σ H Q := fun σ H Q ⟨ρ, F, fps, Z, Qd, st, hw, zc, k⟩ => by
  subst hr
  refine ⟨ρ, F, fps, Z, _, st, hw, zc, fun a v ρ1 F1 H1 fps1 g1 ra q => ?_⟩
  obtain ⟨y, q, l⟩ := lk_rel g1.st.rs ra q
  cases y with
  | int i =>
    obtain rfl := l.int
    exact ⟨i, rfl, rfl, k _ _ _ _ _ _ _ (.after g1 (.here g1.st (.bl _))) q⟩
  | _ => exact q.elim
theorem d_inG (T : KTab X.K d tab) (hg : Gl X x) (hm : X.mg x = some (.ref d)) (ha : PE X e (rx X.K X.mg E w)) (h1 : behindInMarks .In (.Name x p) = false := by first | exact nobehind _ (by decide) (by decide) | rfl) (hd : (x == ("__debug__" : Str)) = false := by decide) :
    PE X (.Compare e [.In] [.Name x p] pos) (rd X.K X.mg E (wInG tab id w)) := pe_imp (pe_cmpR (op_inT T) ha (pe_glob hg hm (v := .ref d) rfl hd) h1) (inG_road id rfl)
theorem d_notInG (T : KTab X.K d tab) (hg : Gl X x) (hm : X.mg x = some (.ref d)) (ha : PE X e (rx X.K X.mg E w)) (h1 : behindInMarks .NotIn (.Name x p) = false := by first | exact nobehind _ (by decide) (by decide) | rfl) (hd : (x == ("__debug__" : Str)) = false := by decide) :
    PE X (.Compare e [.NotIn] [.Name x p] pos) (rd X.K X.mg E (wInG tab not w)) := pe_imp (pe_cmpR (op_notInT T) ha (pe_glob hg hm (v := .ref d) rfl hd) h1) (inG_road not rfl)
theorem inG_test {r : R2} {g : Bool → Bool} (hr : r = fun x y H Q => ∃ i : Int, x = .int i ∧ y = .ref d ∧ Q (.bl (g (tab.lookup i).isSome)) H) : ∀ σ H Q, rt X.K X.mg E (wB (wInG tab g w)) σ H Q → tTest (tOp r (rx X.K X.mg E w) (tC (.ref d))) σ H Q := fun σ H Q ⟨ρ, F, fps, Z, Qd, st, hw, zc, k⟩ =>
  inG_road (tab := tab) g hr σ H _ ⟨ρ, F, fps, Z, _, st, hw, zc, fun n v ρ' F' H' fps' fv gt q => by
    obtain ⟨b, rfl, q⟩ := bD_of q
    obtain ⟨rfl, dq⟩ := gt.rn
    cases dq
    exact ⟨b, rfl, k _ _ _ _ _ gt.s q⟩⟩
theorem t_inG (T : KTab X.K d tab) (hg : Gl X x) (hm : X.mg x = some (.ref d)) (ha : PE X e (rx X.K X.mg E w)) (h1 : behindInMarks .In (.Name x p) = false := by first | exact nobehind _ (by decide) (by decide) | rfl) (hd : (x == ("__debug__" : Str)) = false := by decide) :
    PT X (.Compare e [.In] [.Name x p] pos) (rt X.K X.mg E (wB (wInG tab id w))) := pt_imp (pt_cmpR (op_inT T) ha (pe_glob hg hm (v := .ref d) rfl hd) h1) (inG_test rfl)
theorem t_notInG (T : KTab X.K d tab) (hg : Gl X x) (hm : X.mg x = some (.ref d)) (ha : PE X e (rx X.K X.mg E w)) (h1 : behindInMarks .NotIn (.Name x p) = false := by first | exact nobehind _ (by decide) (by decide) | rfl) (hd : (x == ("__debug__" : Str)) = false := by decide) :
    PT X (.Compare e [.NotIn] [.Name x p] pos) (rt X.K X.mg E (wB (wInG tab not w))) := pt_imp (pt_cmpR (op_notInT T) ha (pe_glob hg hm (v := .ref d) rfl hd) h1) (inG_test rfl)
end
end DL

namespace DL
open PySem PySem.Spec PyProof.Rows L2
/-! ### list(range(..)), tuple(range(..)) -/
abbrev WR := KX → En → (Int → Int → En → Prop) → Prop
def rr (K : PySem.W.Frag) (mg : Str → Option Value) (E : EX) (w : WR) : L2.St → Hp → (Int → Int → Hp → Prop) → Prop := fun σ H Q' => ∃ ρ F fps Z Q, Sta K F H ρ σ fps ∧ w Z ρ Q ∧ ZC K mg E ρ σ F H fps Z ∧
  ∀ i j ρ' F' H' fps', GotS K ρ σ F H fps ρ' σ F' H' fps' → Q i j ρ' → Q' i j H'
def r1 (w : WX) : WR := fun Z ρ Q => w Z ρ fun a ρ1 => lkD ρ1 a fun d => match d with
  | .int j => Q 0 j ρ1
  | _ => False
def r2 (w u : WX) : WR := fun Z ρ Q => w Z ρ fun a ρ1 => u Z ρ1 fun b ρ2 => lkD ρ2 a fun x => lkD ρ2 b fun y => bI x y fun i j => Q i j ρ2
def rgOk (i j : Int) : Prop := -1000000 ≤ i ∧ i ≤ 1000000 ∧ -1000000 ≤ j ∧ j ≤ 1000000
def wLrg (w : WR) : WE := fun Z ρ Q => w Z ρ fun i j ρ1 => rgOk i j ∧ Q (.lst (rgL i j)) ρ1
def wTrg (w : WR) : WE := fun Z ρ Q => w Z ρ fun i j ρ1 => rgOk i j ∧ Q (.dat (.tuple (rgL i j))) ρ1
section
variable {X : Cx} {E : EX} {a b e : Expr} {wa wb : WX} {wr : WR} {p pos : Pos}
theorem prg_imp {t t' : L2.St → Hp → (Int → Int → Hp → Prop) → Prop} (h : PRg X e t) (i : ∀ σ H Q, t' σ H Q → t σ H Q) : PRg X e t' := fun pins s σ H Q I q => h pins s σ H Q I (i σ H Q q)
theorem g_r1 (hg : Gl X "range") (hm : X.mg "range" = none) (ha : PE X a (rx X.K X.mg E wa)) (na : starEach [a] X.env = (false, eval a X.env) :: starEach [] X.env := by rfl) : PRg X (.Call (.Name "range" p) [a] [] pos) (rr X.K X.mg E (r1 wa)) :=
  prg_imp (prg_1 hg hm ha na) fun σ H Q ⟨ρ, F, fps, Z, Qd, st, hw, zc, k⟩ => ⟨ρ, F, fps, Z, _, st, hw, zc, fun ar v ρ1 F1 H1 fps1 g ra q => by
    obtain ⟨d, q, l⟩ := lk_rel g.st.rs ra q
    cases d with
    | int j => obtain rfl := l.int; exact ⟨j, rfl, k _ _ _ _ _ _ g q⟩
    | _ => exact q.elim⟩
theorem g_r2 (hg : Gl X "range") (hm : X.mg "range" = none) (ha : PE X a (rx X.K X.mg E wa)) (hb : PE X b (rx X.K X.mg E wb)) (na : starEach [a, b] X.env = (false, eval a X.env) :: starEach [b] X.env := by rfl)
    (nb : starEach [b] X.env = (false, eval b X.env) :: starEach [] X.env := by rfl) (hp : (backTo pos (starEach [b] X.env)).any (·.1) = false := by rfl) : PRg X (.Call (.Name "range" p) [a, b] [] pos) (rr X.K X.mg E (r2 wa wb)) :=
  prg_imp (prg_2 hg hm ha hb na nb hp) fun σ H Q ⟨ρ, F, fps, Z, Qd, st, hw, zc, k⟩ => ⟨ρ, F, fps, Z, _, st, hw, zc, fun ar v ρ1 F1 H1 fps1 g ra q =>
    ⟨ρ1, F1, fps1, Z, _, g.st, q, zc.step g, fun br u ρ2 F2 H2 fps2 g2 rb q2 => by
      obtain ⟨d, q3, l⟩ := lk_rel g2.st.rs (ra.mono g2.tr.grow) q2
      obtain ⟨d', q4, l'⟩ := lk_rel g2.st.rs rb q3
      obtain ⟨i, j, rfl, rfl, q5⟩ := bI_of q4
      obtain rfl := l.int
      obtain rfl := l'.int
      exact ⟨i, j, rfl, rfl, k _ _ _ _ _ _ (g.trans g2) q5⟩⟩⟩
theorem rgV_all {K : PySem.W.Frag} {F : Hp} (i j : Int) : DqAll K F (rgV i j) (rgL i j) := by
  unfold rgV rgL
  exact DqAll.of_map fun k _ => .int _
theorem rgV_key (i j : Int) : tupK (rgV i j) = true := by
  unfold tupK rgV
  rw [List.all_map]
  exact List.all_eq_true.mpr fun _ _ => rfl
theorem rgOk_ok {i j : Int} (h : rgOk i j) : RgOk i j := by obtain ⟨a, b, c, d⟩ := h; exact ⟨by omega, by omega, by omega, by omega, by omega⟩
theorem d_lrg (hc : X.calm = true) (hg : Gl X "list") (hm : X.mg "list" = none) (he : PRg X e (rr X.K X.mg E wr)) (na : starEach [e] X.env = (false, eval e X.env) :: starEach [] X.env := by rfl) : PE X (.Call (.Name "list" p) [e] [] pos) (rd X.K X.mg E (wLrg wr)) :=
  pe_imp (pe_listRg hc hg hm he na) fun σ H Q ⟨ρ, F, fps, Z, Qd, st, hw, zc, k⟩ => ⟨ρ, F, fps, Z, _, st, hw, zc, fun i j ρ1 F1 H1 fps1 g q =>
    ⟨rgOk_ok q.1, fun p hp => k _ _ _ _ _ _ _ (.after g (.lst g.st hp (rgV_all i j))) q.2⟩⟩
theorem d_trg (hc : X.calm = true) (hg : Gl X "tuple") (hm : X.mg "tuple" = none) (he : PRg X e (rr X.K X.mg E wr)) (na : starEach [e] X.env = (false, eval e X.env) :: starEach [] X.env := by rfl) : PE X (.Call (.Name "tuple" p) [e] [] pos) (rd X.K X.mg E (wTrg wr)) :=
  pe_imp (pe_tupRg hc hg hm he na) fun σ H Q ⟨ρ, F, fps, Z, Qd, st, hw, zc, k⟩ => ⟨ρ, F, fps, Z, _, st, hw, zc, fun i j ρ1 F1 H1 fps1 g q =>
    ⟨rgOk_ok q.1, fun p hp => k _ _ _ _ _ _ _ (.after g (.tupK g.st hp (rgV_key i j) (rgV_all i j))) q.2⟩⟩
/-! ### {} -/
def wD0 : WE := fun _ ρ Q => Q (.dK []) ρ
theorem d_dct0 : PE X (.Dict [] [] pos) (rd X.K X.mg E wD0) := pe_imp pe_dnewK fun σ H Q ⟨ρ, F, fps, Z, Qd, st, hw, zc, k⟩ => fun p hp => k _ _ _ _ _ _ _ (.dK0 st hp) hw
end
end DL

namespace DL
open PySem PySem.Spec PyProof.Rows L2 HT
/-! ### t[::-1] of a tuple -/
section
variable {prog : Program} {w : World} {A : Around} {E : Value → Shared → Prop} {s : Shared}
theorem adjust_rev (n : Nat) : Builtin.Slice.sliceAdjust none none (-1) (n : Int) = ((n : Int) - 1, -1) := by
  unfold Builtin.Slice.sliceAdjust
  simp
theorem places_rev (n : Nat) : Builtin.Slice.slicePlaces ((n : Int) - 1) (-1) (-1) = n := by
  unfold Builtin.Slice.slicePlaces
  simp
  try omega
theorem sliceApplied_rev {sl : Addr} {vl vu vs : Value} {n : Nat} {Q : Int × Int × Nat → Shared → Prop} (hs : s.heap.IsSliceOf sl vl vu vs) (pl : IsPart vl none) (pu : IsPart vu none) (ps : IsPart vs (some (-1)))
    (h : Q ((n : Int) - 1, -1, n) s) : wpAny (model prog w) A (Builtin.Slice.sliceApplied (.ref sl) (pure (n : Int))) Q E s := by
  obtain ⟨os, hos, hcs, hds⟩ := id hs
  unfold Builtin.Slice.sliceApplied Builtin.Slice.sliceFields
  refine wpAny_bind (wpAny_bind (wpAny_field hos hds (x := vl) rfl (wpAny_bind (wpAny_field hos hds (x := vu) rfl (wpAny_bind (wpAny_field hos hds (x := vs) rfl (wpAny_pure ?_)))))))
  refine wpAny_bind (slicePart_ ps ?_)
  show wpAny _ _ (if ((-1 : Int) == 0) = true then _ else _) _ _ s
  rw [if_neg (by decide)]
  refine wpAny_bind (slicePart_ pl (wpAny_bind (slicePart_ pu (wpAny_bind (wpAny_pure ?_)))))
  show wpAny _ _ (match Builtin.Slice.sliceAdjust none none (-1) (n : Int) with | (lo, hi) => pure (lo, (-1 : Int), Builtin.Slice.slicePlaces lo hi (-1))) _ _ s
  rw [adjust_rev n]
  show wpAny _ _ (pure ((n : Int) - 1, (-1 : Int), Builtin.Slice.slicePlaces ((n : Int) - 1) (-1) (-1))) _ _ s
  rw [places_rev]
  exact wpAny_pure h
theorem pick_rev (xs : Array Value) : ((List.range xs.size).filterMap fun (m : Nat) => xs[(((xs.size : Int) - 1) + (m : Int) * (-1)).toNat]?).toArray = xs.toList.reverse.toArray := by
  congr 1
  rw [← PySem.W.krv_all xs, ← List.filterMap_reverse, ← PySem.W.krv_range, List.filterMap_map]
  have go : ∀ l : List Nat, (∀ m ∈ l, m < xs.size) → l.filterMap (fun (m : Nat) => xs[(((xs.size : Int) - 1) + (m : Int) * (-1)).toNat]?) = l.filterMap ((fun x => xs[x]?) ∘ fun k => xs.size - 1 - k) := by
    intro l hl
    induction l with
    | nil => rfl
    | cons m l ih =>
      have hm := hl m List.mem_cons_self
      have e : (((xs.size : Int) - 1) + (m : Int) * (-1)).toNat = xs.size - 1 - m := by omega
      rw [List.filterMap_cons, List.filterMap_cons, ih fun m hm => hl m (List.mem_cons_of_mem _ hm), e]
      rfl
  exact go _ fun m hm => List.mem_range.mp hm
theorem getItem_tuple_rev {t sl : Addr} {items : Array Value} {vl vu vs : Value} {Q : Value → Shared → Prop} (ht : IsTup s.heap t items) (hs : s.heap.IsSliceOf sl vl vu vs) (pl : IsPart vl none) (pu : IsPart vu none) (ps : IsPart vs (some (-1)))
    (h : Q (.ref s.heap.objs.size) { s with heap := s.heap.push { cls := .type "tuple", data := .seq items.toList.reverse.toArray } })
    (hsz : items.size ≤ sizeLine) : wpAny (model prog w) A (getItem (.ref t) (.ref sl)) Q E s := by
  have htake : sizeOk (.seq items.toList.reverse.toArray) := by
    show items.toList.reverse.toArray.size ≤ sizeLine
    rw [List.size_toArray, List.length_reverse, Array.length_toList]
    omega
  obtain ⟨os, hos, hcs, hds⟩ := id hs
  have hTs : s.TypeIs (.ref sl) "slice" := ⟨os, hos, hcs⟩
  unfold getItem
  try with_reducible refine wpAny_holding ?_
  first | refine wpAny_bind (wpAny_pure ?_) | skip
  refine wpAny_bind (wpAny_sequenceKey ht.typeIs (by decide) ?_)
  refine wpAny_bind (wpAny_callSpecial?_slot (name := Str.ofString "__getitem__") ht.typeIs PyProof.Rows.slot_tuple_getitem
    (wpAny_call_entry PyProof.Rows.slot_tuple_getitem ht.typeIs entry_tuple_getitem ?_ (args_tuple_getitem _ _)))
  show wpAny _ _ (Builtin.Tuple.tupleItemsOf (.ref t) >>= _) _ _ s
  refine wpAny_bind (tupleItemsOf_ ht ?_)
  refine wpAny_bind (wpAny_typeOf hTs ?_)
  rw [if_pos (by decide)]
  refine wpAny_bind (sliceApplied_rev hs pl pu ps ?_)
  have hno : ¬ ((((items.size : Int) - 1) == 0 && (-1 : Int) == 1 && items.size == items.size) = true) := by
    intro q
    rw [Bool.and_eq_true, Bool.and_eq_true] at q
    exact absurd q.1.2 (by decide)
  show wpAny _ _ (if (((items.size : Int) - 1) == 0 && (-1 : Int) == 1 && items.size == items.size) = true then _ else _) _ _ s
  rw [if_neg hno, pick_rev]
  first
    | exact wpAny_bind (m := Builtin.Tuple.tupleExact _) (wpAny_newObj_type (wpAny_pure ⟨_, rfl, wpAny_pure h⟩) htake)
    | exact wpAny_bind (wpAny_newObj_type (wpAny_pure ⟨_, rfl, wpAny_pure h⟩) htake)
    | exact wpAny_newObj_type (wpAny_pure ⟨_, rfl, wpAny_pure h⟩) htake
end
section
variable {X : Cx} {E : EX}
def tRevA (K : PySem.W.Frag) (te : TE) : TE := fun σ H Q => te σ H fun x H1 => ∃ a xs, x = .ref a ∧ ((SqT K H1 a xs ∧ newT xs.reverse H1 Q) ∨ (SqL K H1 a xs ∧ ∀ p, H1 p = none → Q (.ref p) (upd H1 p (.lst xs.reverse))))
theorem pe_revA {e : Expr} {te : TE} {k : Nat} {p1 p2 p3 pos : Pos} (he : PE X e te) : PE X (.Subscript e (.Slice none none (some (.UnaryOp .USub (.Constant (.int 1) k p1) p2)) p3) pos) (tRevA X.K te) := by
  refine ⟨fun pins s σ H Q I h => ?_⟩
  refine Subscript_ (thn (he.run pins s σ H _ I h) fun v s1 ⟨x, H1, I1, r1, q1⟩ => ?_)
  obtain ⟨a, xs, ex, q1⟩ := q1
  subst ex
  cases r1
  have hst : PO X (some (.UnaryOp .USub (.Constant (.int 1) k p1) p2)) (tPart (tUn (rU fun i => .int (-i)) (tC (.int 1)))) := po_some (pe_un un_neg pe_int)
  refine wpAny_Slice (thn (po_none.run pins s1 σ H1 (fun o H2 => o = none ∧ H2 = H1) I1 ⟨rfl, rfl⟩) fun vl s2 ⟨l, H2, I2, pl, el, e2⟩ => ?_)
  subst el e2
  refine thn (po_none.run pins s2 σ H2 (fun o H3 => o = none ∧ H3 = H2) I2 ⟨rfl, rfl⟩) fun vu s3 ⟨u, H3, I3, pu, eu, e3⟩ => ?_
  subst eu e3
  refine thn (hst.run pins s3 σ H3 (fun o H4 => o = some (-1) ∧ H4 = H3) I3 ⟨1, rfl, -1, rfl, rfl, rfl⟩) fun vs s4 ⟨o, H4, I4, ps, eo, e4⟩ => ?_
  subst eo e4
  have I5 : Inv X pins σ H4 { s4 with heap := s4.heap.push { cls := .type "slice", data := .fields #[vl, vu, vs] } } := I4.kept (t' := s4.toks) fun b ob q => Heap.get?_push_of_some _ q
  show wpAny (model X.prog X.w) X.A (subscriptTail e (.Slice none none (some (.UnaryOp .USub (.Constant (.int 1) k p1) p2)) p3) (.ref a) (.ref s4.heap.objs.size)) (EP X pins σ Q) X.xe { s4 with heap := s4.heap.push { cls := .type "slice", data := .fields #[vl, vu, vs] } }
  rcases q1 with ⟨hx, q⟩ | ⟨hx, q⟩
  · obtain ⟨its, r, ht, hz⟩ := I5.tuple hx
    have hlen := r.length
    refine tail_any (ops := [.ref a, .ref s4.heap.objs.size]) ht.typeIs (PyProof.Rows.slot_tuple_getitem.lookup) ?_ (by with_unfolding_all rfl)
    refine getItem_tuple_rev ht (Heap.IsSliceOf.new _ vl vu vs) pl pu ps ?_ (by rw [List.size_toArray]; omega)
    exact tup_new I5 r.reverse (by rw [List.length_reverse]; exact hz) q
  · obtain ⟨its, r, ht, hz⟩ := I5.list hx
    have hlen := r.length
    refine tail_any (ops := [.ref a, .ref s4.heap.objs.size]) ht.isList.typeIs (PySem.slot_list_getitem.lookup) ?_ (by with_unfolding_all rfl)
    refine wpAny_getItem_list_slice ht.isList (Heap.IsSliceOf.new _ vl vu vs) pl pu ps (by decide) ?_ (by rw [List.size_toArray]; omega)
    rw [PySem.W.krv_pick]
    refine ⟨.ref _, _, I5.laid (t' := s4.toks) (o := .lst xs.reverse) (fun b ob q => Heap.get?_push_of_some _ q) (Nat.le_refl _) ?_, rfl, q _ (I5.hok.fresh (Nat.le_refl _))⟩
    exact ⟨by rw [List.length_reverse]; exact hz, _, 0, r.reverse, Heap.get?_push_size _ rfl⟩
def wRvA (wa : WX) : WE := fun Z ρ Q => wa Z ρ fun a ρ1 => lkD ρ1 a fun x => match x with
  | .tuple ds => Q (.dat (.tuple ds.reverse)) ρ1
  | .list ds => Q (.lst ds.reverse) ρ1
  | _ => False
variable {a : Expr} {wa : WX} {pos : Pos}
theorem d_rvA {k : Nat} {p1 p2 p3 : Pos} (ha : PE X a (rx X.K X.mg E wa)) : PE X (.Subscript a (.Slice none none (some (.UnaryOp .USub (.Constant (.int 1) k p1) p2)) p3) pos) (rd X.K X.mg E (wRvA wa)) :=
  pe_imp (pe_revA ha) fun σ H Q ⟨ρ, F, fps, Z, Qd, st, hw, zc, k⟩ => ⟨ρ, F, fps, Z, _, st, hw, zc, fun a v ρ1 F1 H1 fps1 g1 q1 h1 => by
    obtain ⟨x, h4, l1⟩ := lk_rel g1.st.rs q1 h1
    cases x with
    | tuple ds =>
      obtain ⟨p, xs, rfl, _, e, t⟩ := tupH g1.st.wf.sub l1
      exact ⟨p, xs, rfl, .inl ⟨e, fun q o ho hq => k _ _ _ _ _ _ _ (.after g1 (.tup g1.st hq ho t.reverse)) h4⟩⟩
    | list ds =>
      obtain ⟨p, xs, rfl, e, t⟩ := lstH g1.st.wf.sub l1
      exact ⟨p, xs, rfl, .inr ⟨SqL.of e, fun q hq => k _ _ _ _ _ _ _ (.after g1 (.lst g1.st hq t.reverse)) h4⟩⟩
    | _ => exact h4.elim⟩
end
end DL

/-! dicts -/
namespace DL
open PySem PySem.Spec PyProof.Rows L2
section
variable {κ : Type} [DecidableEq κ]
def valP (kvs : List (κ × PyData)) (k : κ) : Option PyData := (kvs.find? fun kv => decide (kv.1 = k)).map (·.2)
def putP (kvs : List (κ × PyData)) (k : κ) (d : PyData) : List (κ × PyData) :=
  if (kvs.any fun kv => decide (kv.1 = k)) = true then kvs.map (fun kv => if kv.1 = k then (kv.1, d) else kv) else kvs ++ [(k, d)]
theorem val_rel {K : PySem.W.Frag} {F : Hp} (k : κ) : ∀ {ws : List (κ × V)} {kvs : List (κ × PyData)}, ws.map (·.1) = kvs.map (·.1) → DqAll K F (ws.map (·.2)) (kvs.map (·.2)) →
    (valV ws k = none ∧ valP kvs k = none) ∨ ∃ v d, valV ws k = some v ∧ valP kvs k = some d ∧ Dq K F v d
  | [], [], _, _ => .inl ⟨rfl, rfl⟩
  | [], _ :: _, h, _ => by cases h
  | _ :: _, [], h, _ => by cases h
  | w :: ws, x :: kvs, h, q => by
    rw [List.map_cons, List.map_cons] at h
    injection h with h1 h2
    cases q with
    | cons q qs =>
      by_cases e : w.1 = k
      · refine .inr ⟨w.2, x.2, valV_pos e, ?_, q⟩
        unfold valP
        rw [List.find?_cons, decide_eq_true (h1.symm.trans e)]
        rfl
      · have e2 : ¬ x.1 = k := fun z => e (h1.trans z)
        rw [valV_neg e]
        have : valP (x :: kvs) k = valP kvs k := by unfold valP; rw [List.find?_cons, decide_eq_false e2]
        rw [this]
        exact val_rel k h2 qs
theorem any_rel (k : κ) : ∀ {ws : List (κ × V)} {kvs : List (κ × PyData)}, ws.map (·.1) = kvs.map (·.1) → (ws.any fun kv => decide (kv.1 = k)) = kvs.any fun kv => decide (kv.1 = k)
  | [], [], _ => rfl
  | [], _ :: _, h => by cases h
  | _ :: _, [], h => by cases h
  | w :: ws, x :: kvs, h => by
    rw [List.map_cons, List.map_cons] at h
    injection h with h1 h2
    rw [List.any_cons, List.any_cons, any_rel k h2, h1]
theorem repl_rel {K : PySem.W.Frag} {F : Hp} (k : κ) {v : V} {d : PyData} (r : Dq K F v d) : ∀ {ws : List (κ × V)} {kvs : List (κ × PyData)}, ws.map (·.1) = kvs.map (·.1) → DqAll K F (ws.map (·.2)) (kvs.map (·.2)) →
    (ws.map fun kv => if kv.1 = k then (kv.1, v) else kv).map (·.1) = (kvs.map fun kv => if kv.1 = k then (kv.1, d) else kv).map (·.1) ∧ DqAll K F ((ws.map fun kv => if kv.1 = k then (kv.1, v) else kv).map (·.2)) ((kvs.map fun kv => if kv.1 = k then (kv.1, d) else kv).map (·.2))
  | [], [], _, _ => ⟨rfl, .nil⟩
  | [], _ :: _, h, _ => by cases h
  | _ :: _, [], h, _ => by cases h
  | w :: ws, x :: kvs, h, q => by
    rw [List.map_cons, List.map_cons] at h
    injection h with h1 h2
    cases q with
    | cons q qs =>
      obtain ⟨i1, i2⟩ := repl_rel k r h2 qs
      by_cases e : w.1 = k
      · have e2 : x.1 = k := h1.symm.trans e
        have a1 : ((w :: ws).map fun kv => if kv.1 = k then (kv.1, v) else kv) = (w.1, v) :: ws.map fun kv => if kv.1 = k then (kv.1, v) else kv := by rw [List.map_cons, if_pos e]
        have a2 : ((x :: kvs).map fun kv => if kv.1 = k then (kv.1, d) else kv) = (x.1, d) :: kvs.map fun kv => if kv.1 = k then (kv.1, d) else kv := by rw [List.map_cons, if_pos e2]
        rw [a1, a2]
        exact ⟨by rw [List.map_cons, List.map_cons, i1]; exact congrArg (· :: _) h1, .cons r i2⟩
      · have e2 : ¬ x.1 = k := fun z => e (h1.trans z)
        have a1 : ((w :: ws).map fun kv => if kv.1 = k then (kv.1, v) else kv) = w :: ws.map fun kv => if kv.1 = k then (kv.1, v) else kv := by rw [List.map_cons, if_neg e]
        have a2 : ((x :: kvs).map fun kv => if kv.1 = k then (kv.1, d) else kv) = x :: kvs.map fun kv => if kv.1 = k then (kv.1, d) else kv := by rw [List.map_cons, if_neg e2]
        rw [a1, a2]
        exact ⟨by rw [List.map_cons, List.map_cons, i1]; exact congrArg (· :: _) h1, .cons q i2⟩
theorem put_rel {K : PySem.W.Frag} {F : Hp} (k : κ) {v : V} {d : PyData} (r : Dq K F v d) {ws : List (κ × V)} {kvs : List (κ × PyData)} (h : ws.map (·.1) = kvs.map (·.1)) (q : DqAll K F (ws.map (·.2)) (kvs.map (·.2))) :
    (putK ws k v).map (·.1) = (putP kvs k d).map (·.1) ∧ DqAll K F ((putK ws k v).map (·.2)) ((putP kvs k d).map (·.2)) := by
  unfold putK putP
  rw [any_rel k h]
  split
  · exact repl_rel k r h q
  · rw [List.map_append, List.map_append, List.map_append, List.map_append, h]
    exact ⟨rfl, q.append (.cons r .nil)⟩
end
theorem kP_inj : ∀ {a b : Key}, kP a = kP b → a = b
  | .inl _, .inl _, h => by cases h; rfl
  | .inr _, .inr _, h => by cases h; rfl
  | .inl _, .inr _, h => by cases h
  | .inr _, .inl _, h => by cases h
theorem kPs_inj : ∀ {a b : List Key}, a.map kP = b.map kP → a = b
  | [], [], _ => rfl
  | [], _ :: _, h => by cases h
  | _ :: _, [], h => by cases h
  | x :: a, y :: b, h => by
    rw [List.map_cons, List.map_cons] at h
    injection h with h1 h2
    rw [kP_inj h1, kPs_inj h2]
theorem tP_inj {a b : List Key} (h : tP a = tP b) : a = b := by
  unfold tP at h
  injection h with h
  exact kPs_inj h
theorem entK_inj : ∀ {a b : List (Key × PyData)}, entK a = entK b → a = b
  | [], [], _ => rfl
  | [], _ :: _, h => by cases h
  | _ :: _, [], h => by cases h
  | (x, u) :: a, (y, v) :: b, h => by
    unfold entK at h
    rw [List.map_cons, List.map_cons] at h
    injection h with h1 h2
    injection h1 with h3 h4
    have h5 : x = y := kP_inj h3
    have h6 : u = v := h4
    have h7 : a = b := entK_inj (show entK a = entK b from h2)
    rw [h5, h6, h7]
theorem entT_inj : ∀ {a b : List (List Key × PyData)}, entT a = entT b → a = b
  | [], [], _ => rfl
  | [], _ :: _, h => by cases h
  | _ :: _, [], h => by cases h
  | (x, u) :: a, (y, v) :: b, h => by
    unfold entT at h
    rw [List.map_cons, List.map_cons] at h
    injection h with h1 h2
    injection h1 with h3 h4
    have h5 : x = y := tP_inj h3
    have h6 : u = v := h4
    have h7 : a = b := entT_inj (show entT a = entT b from h2)
    rw [h5, h6, h7]
theorem ent_ne : ∀ {a : List (Key × PyData)} {b : List (List Key × PyData)}, entK a = entT b → a = []
  | [], _, _ => rfl
  | (x, u) :: a, [], h => by cases h
  | (x, u) :: a, (y, v) :: b, h => by
    unfold entK entT at h
    rw [List.map_cons, List.map_cons] at h
    injection h with h1 h2
    injection h1 with h3 h4
    cases x <;> cases h3
/-- what the dict x holds at y -/
def dicD (x y : PyData) (k : Option PyData → Prop) : Prop :=
  (∃ (kvs : List (Key × PyData)) (key : Key), kvs ≠ [] ∧ x = encK kvs ∧ y = kP key ∧ k (valP kvs key)) ∨ ∃ (kvs : List (List Key × PyData)) (key : List Key), x = encT kvs ∧ y = tP key ∧ k (valP kvs key)
def isDct : PyData → Prop
  | .dict _ => True
  | _ => False
section
variable {K : PySem.W.Frag} {F H : Hp} {v v1 v2 : V} {x y : PyData}
theorem dct_lk {D : List (PyData × PyData)} (s : Same F H) (l : Lk K F H v (.dict D)) : ∃ a, v = .ref a ∧
    ((∃ (ws : List (Key × V)) (kvs : List (Key × PyData)), Rd H a (.dK ws) ∧ ws.map (·.1) = kvs.map (·.1) ∧ DqAll K F (ws.map (·.2)) (kvs.map (·.2)) ∧ D = entK kvs ∧ kvs ≠ []) ∨
     ∃ (ws : List (List Key × V)) (kvs : List (List Key × PyData)), Rd H a (.dT ws) ∧ ws.map (·.1) = kvs.map (·.1) ∧ DqAll K F (ws.map (·.2)) (kvs.map (·.2)) ∧ D = entT kvs) := by
  cases l with
  | d q => cases q with
    | dK h k t z => exact ⟨_, rfl, .inl ⟨_, _, rd_mono s h, k, t, z.1, z.2⟩⟩
    | dT h k t z => exact ⟨_, rfl, .inr ⟨_, _, rd_mono s h, k, t, z⟩⟩
  | dK h k t z => exact ⟨_, rfl, .inl ⟨_, _, .inl h, k, t, z.1, z.2⟩⟩
  | dT h k t z => exact ⟨_, rfl, .inr ⟨_, _, .inl h, k, t, z⟩⟩
theorem key_lk {key : Key} (l : Lk K F H v (kP key)) : v = kV key := by
  cases key with
  | inl i => cases l with
    | d q => cases q; rfl
  | inr s => cases l with
    | d q => cases q; rfl
theorem keys_dq : ∀ {vs : List V} {ks : List Key}, DqAll K F vs (ks.map kP) → vs = ks.map kV
  | _, [], h => by cases h; rfl
  | _, k :: ks, h => by
    cases h with
    | cons h t => rw [keys_dq t, key_lk (H := F) (.d h)]; rfl
theorem tup_keys : ∀ (ks : List Key), tupK (ks.map kV) = true
  | [] => rfl
  | k :: ks => by
    have := tup_keys ks
    unfold tupK at this ⊢
    rw [List.map_cons, List.all_cons, this]
    cases k <;> rfl
theorem tkey_lk {key : List Key} (s : Same F H) (l : Lk K F H v (tP key)) : ∃ b, v = .ref b ∧ H b = some (.tup (key.map kV)) := by
  cases l with
  | d q => cases q with
    | tup h t =>
      have e := keys_dq t
      subst e
      obtain ⟨o, _, h⟩ := h
      rw [tupO_k (tup_keys key)] at h
      exact ⟨_, rfl, s _ _ h⟩
theorem dget_of {k : Option PyData → Prop} (s : Same F H) (l1 : Lk K F H v1 x) (l2 : Lk K F H v2 y) (h : dicD x y k) : ∃ a o r, v1 = .ref a ∧ DGet H a v2 o ∧ k r ∧ ((o = none ∧ r = none) ∨ ∃ v d, o = some v ∧ r = some d ∧ Dq K F v d) := by
  rcases h with ⟨kvs, key, ne, rfl, rfl, hk⟩ | ⟨kvs, key, rfl, rfl, hk⟩
  · obtain ⟨a, rfl, h⟩ := dct_lk s l1
    rcases h with ⟨ws, kvs', h, k1, q, e, _⟩ | ⟨ws, kvs', h, k1, q, e⟩
    · obtain rfl := entK_inj e
      exact ⟨a, _, _, rfl, (key_lk l2) ▸ .inl ⟨_, _, h, rfl, rfl⟩, hk, val_rel key k1 q⟩
    · exact absurd (ent_ne e) ne
  · obtain ⟨a, rfl, h⟩ := dct_lk s l1
    obtain ⟨b, rfl, hb⟩ := tkey_lk s l2
    rcases h with ⟨ws, kvs', h, k1, q, e, ne⟩ | ⟨ws, kvs', h, k1, q, e⟩
    · exact absurd (ent_ne e.symm) ne
    · obtain rfl := entT_inj e
      exact ⟨a, _, _, rfl, (.inr ⟨_, _, _, h, rfl, hb, rfl⟩), hk, val_rel key k1 q⟩
theorem isd_lk (s : Same F H) (l : Lk K F H v x) (h : isDct x) : ∃ a, v = .ref a ∧ IsD H a := by
  cases x with
  | dict D =>
    obtain ⟨a, rfl, h⟩ := dct_lk s l
    rcases h with ⟨ws, kvs', h, _⟩ | ⟨ws, kvs', h, _⟩
    · exact ⟨a, rfl, .inl ⟨_, h⟩⟩
    · exact ⟨a, rfl, .inr ⟨_, h⟩⟩
  | _ => exact h.elim
end
/-! d[k], k in d -/
def oIxA : O2 := fun x y k => match x with
  | .dict _ => dicD x y fun r => ∃ d, r = some d ∧ k (.dat d)
  | _ => oIx x y k
def rIxDc : R2 := fun x y H Q => ∃ a v, x = .ref a ∧ DGet H a y (some v) ∧ Q v H
section
variable {X : Cx} {E : EX} {a b e f : Expr} {wa wb wf : WX} {pos apos cpos : Pos}
theorem ix_dct (hu : X.A.units + 1 < cLine) : IxR X rIxDc := by
  intro value slice pins s σ H x y v u Q I rx ry h hs
  obtain ⟨p, r, rfl, g, q⟩ := h
  obtain rfl : v = Value.ref p := rx
  exact tail_any (dict_typeIs I g) PySem.F.slot_dict_getitem.lookup (d_getItem hu I g ry fun w' s3 I3 rw' => ⟨r, H, I3, rw', q⟩) hs
theorem ixA_road {F H : Hp} {d1 d2 : PyData} {v1 v2 : V} {k : N → Prop} {Q' : VK} (s : Same F H) (q1 : Lk X.K F H v1 d1) (q2 : Lk X.K F H v2 d2) (ho : oIxA d1 d2 k) (go : ∀ n v F' H' fv, Grow X.K F H n v F' H' fv → k n → Q' v H') : rIx X.K v1 v2 H Q' ∨ rIxDc v1 v2 H Q' := by
  unfold oIxA at ho
  split at ho
  · obtain ⟨a, o, r, rfl, g, ⟨d, rfl, hk⟩, z⟩ := dget_of s q1 q2 ho
    rcases z with ⟨_, z⟩ | ⟨v, d', rfl, e, dq⟩
    · cases z
    · cases e
      exact .inr ⟨a, v, rfl, g, go _ _ _ _ _ (.dat dq) hk⟩
  · exact .inl (ix_road s q1 q2 ho go)
theorem d_ixA (hu : X.A.units + 1 < cLine) (ha : PE X a (rx X.K X.mg E wa)) (hb : PE X b (rx X.K X.mg E wb)) (hs : PlainIx b := by intro _ _; rfl) : PE X (.Subscript a b pos) (rd X.K X.mg E (wO oIxA wa wb)) := pe_imp (pe_ix (ix_seq.or (ix_dct hu)) ha hb hs) (two ixA_road)
def oInA (g : Bool → Bool) : O2 := fun x c k => match c with
  | .dict _ => dicD c x fun r => k (.dat (.bool (g r.isSome)))
  | _ => oIn g x c k
def rInDc (g : Bool → Bool) : R2 := fun x y H Q => ∃ a o, y = .ref a ∧ DGet H a x o ∧ Q (.bl (g o.isSome)) H
theorem op_inDc (hu : X.A.units + 1 < cLine) : OpR X (compareOp .In) (rInDc id) := by
  intro pins s σ H x y v u Q I rx ry h
  obtain ⟨p, o, rfl, g, q⟩ := h
  obtain rfl : u = Value.ref p := ry
  exact d_in hu I g rx fun s3 I3 => ⟨.bl o.isSome, H, I3, rfl, q⟩
theorem op_notinDc (hu : X.A.units + 1 < cLine) : OpR X (compareOp .NotIn) (rInDc not) := by
  intro pins s σ H x y v u Q I rx ry h
  obtain ⟨p, o, rfl, g, q⟩ := h
  obtain rfl : u = Value.ref p := ry
  exact d_notIn hu I g rx fun s3 I3 => ⟨.bl (!o.isSome), H, I3, rfl, q⟩
theorem inA_road {f : Value → Value → Sem Value} (g : Bool → Bool) (h0 : OpD X f (oIn g)) (h1 : OpR X f (rInDc g)) : OpD X f (oInA g) := by
  obtain ⟨r, hr, h2⟩ := h0
  refine ⟨_, OpR_or hr h1, fun {F H d1 d2 v1 v2 k Q'} s q1 q2 ho go => ?_⟩
  unfold oInA at ho
  split at ho
  · obtain ⟨a, o, r, rfl, gg, hk, z⟩ := dget_of s q2 q1 ho
    refine .inr ⟨a, o, rfl, gg, go _ _ _ _ _ .datB ?_⟩
    rcases z with ⟨rfl, rfl⟩ | ⟨v, d', rfl, rfl, _⟩ <;> exact hk
  · exact .inl (h2 s q1 q2 ho go)
theorem opd_inA (hu : X.A.units + 65 < cLine) : OpD X (compareOp .In) (oInA id) := inA_road id (opd_in hu) (op_inDc (by omega))
theorem opd_notinA (hu : X.A.units + 65 < cLine) : OpD X (compareOp .NotIn) (oInA not) := inA_road not (opd_notin hu) (op_notinDc (by omega))
/-! d.get(k), d.get(k, x) -/
def wDg1 (wa wb : WX) : WE := fun Z ρ Q => wa Z ρ fun a ρ1 => lkD ρ1 a isDct ∧ wb Z ρ1 fun b ρ2 => lkD ρ2 a fun x => lkD ρ2 b fun y => dicD x y fun r => Q (.dat (r.getD .none)) ρ2
def wDg2 (wa wb wf : WX) : WE := fun Z ρ Q => wa Z ρ fun a ρ1 => lkD ρ1 a isDct ∧ wb Z ρ1 fun b ρ2 => wf Z ρ2 fun c ρ3 => match c with
  | .d z => lkD ρ3 a fun x => lkD ρ3 b fun y => dicD x y fun r => Q (.dat (r.getD z)) ρ3
  | .o _ => False
theorem d_dg1 (hu : X.A.units + 1 < cLine) (ha : PE X a (rx X.K X.mg E wa)) (hb : PE X b (rx X.K X.mg E wb)) (m : M1 X a "get" apos b cpos) : PE X (.Call (.Attribute a "get" apos) [b] [] cpos) (rd X.K X.mg E (wDg1 wa wb)) :=
  pe_imp (pe_dget1 hu ha hb m) fun σ H Q ⟨ρ, F, fps, Z, Qd, st, hw, zc, k⟩ => ⟨ρ, F, fps, Z, _, st, hw, zc, fun x v1 ρ1 F1 H1 fps1 g1 q1 h1 => by
    obtain ⟨h0, h1⟩ := h1
    obtain ⟨d0, i0, l0⟩ := lk_rel g1.st.rs q1 h0
    obtain ⟨p, rfl, hp⟩ := isd_lk g1.st.wf.sub l0 i0
    refine ⟨p, rfl, hp, ρ1, F1, fps1, Z, _, g1.st, h1, zc.step g1, fun y v2 ρ2 F2 H2 fps2 g2 q2 h2 => ?_⟩
    obtain ⟨dx, h3, lx⟩ := lk_rel g2.st.rs (q1.mono g2.tr.grow) h2
    obtain ⟨dy, h4, ly⟩ := lk_rel g2.st.rs q2 h3
    obtain ⟨a', o, r, e, g, hk, z⟩ := dget_of g2.st.wf.sub lx ly h4
    cases e
    refine ⟨o, g, ?_⟩
    rcases z with ⟨rfl, rfl⟩ | ⟨v, d, rfl, rfl, dq⟩
    · exact k _ _ _ _ _ _ _ (.after (g1.trans g2) (.here g2.st .non)) hk
    · exact k _ _ _ _ _ _ _ (.after (g1.trans g2) (.here g2.st dq)) hk⟩
theorem d_dg2 (hu : X.A.units + 1 < cLine) (ha : PE X a (rx X.K X.mg E wa)) (hb : PE X b (rx X.K X.mg E wb)) (hf : PE X f (rx X.K X.mg E wf)) (m : M2 X a "get" apos b f cpos) : PE X (.Call (.Attribute a "get" apos) [b, f] [] cpos) (rd X.K X.mg E (wDg2 wa wb wf)) :=
  pe_imp (pe_dget2 hu ha hb hf m) fun σ H Q ⟨ρ, F, fps, Z, Qd, st, hw, zc, k⟩ => ⟨ρ, F, fps, Z, _, st, hw, zc, fun x v1 ρ1 F1 H1 fps1 g1 q1 h1 => by
    obtain ⟨h0, h1⟩ := h1
    obtain ⟨d0, i0, l0⟩ := lk_rel g1.st.rs q1 h0
    obtain ⟨p, rfl, hp⟩ := isd_lk g1.st.wf.sub l0 i0
    refine ⟨p, rfl, hp, ρ1, F1, fps1, Z, _, g1.st, h1, zc.step g1, fun y v2 ρ2 F2 H2 fps2 g2 q2 h2 => ?_⟩
    refine ⟨ρ2, F2, fps2, Z, _, g2.st, h2, (zc.step g1).step g2, fun c v3 ρ3 F3 H3 fps3 g3 q3 h3 => ?_⟩
    cases q3 with
    | o => exact h3.elim
    | d q3 =>
    obtain ⟨dx, h3, lx⟩ := lk_rel g3.st.rs (q1.mono (g2.trans g3).tr.grow) h3
    obtain ⟨dy, h4, ly⟩ := lk_rel g3.st.rs (q2.mono g3.tr.grow) h3
    obtain ⟨a', o, r, e, g, hk, z⟩ := dget_of g3.st.wf.sub lx ly h4
    cases e
    refine ⟨o, g, ?_⟩
    rcases z with ⟨rfl, rfl⟩ | ⟨v, d, rfl, rfl, dq⟩
    · exact k _ _ _ _ _ _ _ (.after (g1.trans (g2.trans g3)) (.here g3.st q3)) hk
    · exact k _ _ _ _ _ _ _ (.after (g1.trans (g2.trans g3)) (.here g3.st dq)) hk⟩
end
end DL

/-! dict(pairs), d[k] = v, len(d) -/
namespace DL
open PySem PySem.Spec PyProof.Rows L2
def pairD (p : List Key × PyData) : PyData := .tuple [tP p.1, p.2]
def pairK (p : Key × PyData) : PyData := .tuple [kP p.1, p.2]
def putAll {κ : Type} [DecidableEq κ] (acc kvs : List (κ × PyData)) : List (κ × PyData) := kvs.foldl (fun acc p => putP acc p.1 p.2) acc
def putVs {κ : Type} [DecidableEq κ] (acc ws : List (κ × V)) : List (κ × V) := ws.foldl (fun acc p => putK acc p.1 p.2) acc
theorem puts_rel {κ : Type} [DecidableEq κ] {K : PySem.W.Frag} {F : Hp} : ∀ {ws : List (κ × V)} {kvs : List (κ × PyData)} {aw : List (κ × V)} {ak : List (κ × PyData)}, aw.map (·.1) = ak.map (·.1) → DqAll K F (aw.map (·.2)) (ak.map (·.2)) → ws.map (·.1) = kvs.map (·.1) → DqAll K F (ws.map (·.2)) (kvs.map (·.2)) →
    (putVs aw ws).map (·.1) = (putAll ak kvs).map (·.1) ∧ DqAll K F ((putVs aw ws).map (·.2)) ((putAll ak kvs).map (·.2))
  | [], [], _, _, h1, h2, _, _ => ⟨h1, h2⟩
  | [], _ :: _, _, _, _, _, h, _ => by cases h
  | _ :: _, [], _, _, _, _, h, _ => by cases h
  | w :: ws, x :: kvs, aw, ak, h1, h2, h, q => by
    rw [List.map_cons, List.map_cons] at h
    injection h with h3 h4
    cases q with
    | cons q qs =>
      obtain ⟨a1, a2⟩ := put_rel w.1 (v := w.2) (d := x.2) q h1 h2
      have := puts_rel (ws := ws) (kvs := kvs) a1 a2 h4 qs
      have e : w.1 = x.1 := h3
      show (putVs (putK aw w.1 w.2) ws).map _ = (putAll (putP ak x.1 x.2) kvs).map _ ∧ DqAll K F ((putVs (putK aw w.1 w.2) ws).map _) ((putAll (putP ak x.1 x.2) kvs).map _)
      rw [← e]
      exact this
section
variable {X : Cx} {pins : List (Addr × Obj)} {σ : L2.St} {H F : Hp} {s : Shared}
theorem kt_all {P : Program} {w : World} : ∀ {ws : List (List Key × V)} {xs : List (List Key × Addr × Value)} {aw : List (List Key × V)} {ax : List (List Key × Addr × Value)}, KT H aw ax → KT H ws xs → KT H (putVs aw ws) (storedAllH ax xs)
  | [], _, aw, ax, h, q => by cases q; exact h
  | p :: ws, _, aw, ax, h, q => by
    cases q with
    | @cons _ r _ _ a t =>
      obtain ⟨e, hb, rv⟩ := a
      have := kt_all (P := P) (w := w) (h.put p.1 hb rv) t
      show KT H (putVs (putK aw p.1 p.2) _) (storedAllH (storedH ax r.1 r.2.1 r.2.2) _)
      rw [← e]
      exact this
/-- the pairs of a row, as they stand -/
theorem pairs_at (I : Inv X pins σ H s) (f : Same F H) : ∀ {vs : List V} {its : List Value} {kvs : List (List Key × PyData)}, DqAll X.K F vs (kvs.map pairD) → Vals vs its →
    ∃ (Ts : List Addr) (ws : List (List Key × V)) (xs : List (List Key × Addr × Value)), its = Ts.map Value.ref ∧ Ts.length = xs.length ∧ (∀ (j : Nat) (T : Addr) (x : List Key × Addr × Value), Ts[j]? = some T → xs[j]? = some x → PairAt s.heap T (.ref x.2.1) x.2.2) ∧ KT H ws xs ∧ ws.map (·.1) = kvs.map (·.1) ∧ DqAll X.K F (ws.map (·.2)) (kvs.map (·.2))
  | _, its, [], q, r => by
    cases q
    cases r
    exact ⟨[], [], [], rfl, rfl, fun j T x h => by simp at h, .nil, rfl, .nil⟩
  | _, its, (key, d) :: kvs, q, r => by
    cases q with
    | cons q qs =>
      cases r with
      | cons r rs =>
        obtain ⟨Ts, ws, xs, e1, e2, e3, e4, e5, e6⟩ := pairs_at I f qs rs
        cases q with
        | @tup T _ _ h t =>
          cases t with
          | cons t1 t =>
            cases t with
            | @cons w2 _ _ _ t2 t =>
              cases t
              obtain ⟨b, rfl, hb⟩ := tkey_lk f (.d t1)
              cases r
              obtain ⟨its2, rv, tp, _⟩ := I.tuple (TupAt.mono f h).sq
              cases rv with
              | cons r1 rv =>
                cases rv with
                | @cons _ u2 _ _ r2 rv =>
                  cases rv
                  cases r1
                  refine ⟨_ :: Ts, (key, w2) :: ws, (key, b, u2) :: xs, by rw [e1]; rfl, by simp [e2], fun j T' x hT hx => ?_, .cons ⟨rfl, hb, r2⟩ e4, by rw [List.map_cons, List.map_cons, e5], .cons t2 e6⟩
                  cases j with
                  | zero =>
                    simp at hT hx
                    subst hT hx
                    exact .inl tp
                  | succ j => exact e3 j T' x (by simpa using hT) (by simpa using hx)
theorem kt_new {P : Program} {w : World} {a : Addr} {o : HO} {ws : List (List Key × V)} {xs : List (List Key × Addr × Value)} (r : KT H ws xs) (n : H a = none) : KT (upd H a o) ws xs :=
  r.keeps fun b ys e => by rw [upd_ne (ne_of_none e n)]; exact e
theorem kt_len {ws : List (List Key × V)} {xs : List (List Key × Addr × Value)} (r : KT H ws xs) : ws.length = xs.length := Paired.length r
/-- dict(row of pairs) -/
theorem dict_road {T : String} {a : Addr} {vs : List V} {its : List Value} {kvs : List (List Key × PyData)} {Q : VK} (hc : X.calm = true) (hu : X.A.units + 4 < cLine) (I : Inv X pins σ H s) (f : Same F H) (rv : Vals vs its) (q : DqAll X.K F vs (kvs.map pairD)) (hz : vs.length ≤ sizeLine)
    (PA : ∀ (Ts : Nat → Addr) (ps : List (Value × Value)), ∃ fp OK, PairArg X.prog X.w T a fp [] ps.length (PairRel ps) OK ∧ (PairItems s.heap its.toArray Ts ps → OK s.heap))
    (go : ∀ (p : Addr) (ws : List (List Key × V)), H p = none → ws.map (·.1) = (putAll [] kvs).map (·.1) → DqAll X.K F (ws.map (·.2)) ((putAll [] kvs).map (·.2)) → Q (.ref p) (upd H p (.dT ws))) :
    wpAny (model X.prog X.w) X.A (call (.type "dict") [.ref a]) (EP X pins σ Q) X.xe s := by
  obtain ⟨Ts, ws, xs, e1, e2, e3, e4, e5, e6⟩ := pairs_at I f q rv
  have hl : xs.length = vs.length := by rw [← e2, ← List.length_map (f := Value.ref), ← e1, rv.length]
  let ps : List (Value × Value) := xs.map fun x => (.ref x.2.1, x.2.2)
  obtain ⟨fp, OK, P, ok⟩ := PA (fun j => Ts.getD j 0) ps
  have lp : ps.length = xs.length := List.length_map ..
  refine call_dict_pairsH (knd := tupleKind (mixKind X.prog X.w)) (ps := xs) P (I.ok.hd hc) (by show X.A.units + 1 + 1 < cLine; omega) (ok ⟨?_, fun j k v hj => ?_⟩) ⟨lp.symm, fun i key v hr => ?_⟩ (fun h' hk x hx => ?_) (by rw [lp, hl]; exact hz) fun h' tk hd hk => ?_
  · rw [List.size_toArray, e1, List.length_map, e2, lp]
  · have hj' : j < xs.length := by rw [← lp]; exact (List.getElem?_eq_some_iff.mp hj).1
    have hjT : j < Ts.length := by rw [e2]; exact hj'
    have hj2 : (xs[j]?.map fun x : List Key × Addr × Value => (Value.ref x.2.1, x.2.2)) = some (k, v) := by rw [← List.getElem?_map]; exact hj
    rw [List.getElem?_eq_getElem hj'] at hj2
    have ek : (Value.ref (xs[j]'hj').2.1, (xs[j]'hj').2.2) = (k, v) := Option.some.inj hj2
    injection ek with ek1 ek2
    subst ek1 ek2
    refine ⟨?_, ?_⟩
    · rw [e1]; simp [hjT]
    · have : Ts.getD j 0 = Ts[j]'hjT := by simp [hjT]
      show PairAt s.heap (Ts.getD j 0) _ _
      rw [this]
      exact e3 j _ _ (List.getElem?_eq_getElem hjT) (List.getElem?_eq_getElem hj')
  · have h0 : ps[i]? = some (key, v) := hr
    rw [List.getElem?_map] at h0
    cases e : xs[i]? with
    | none => rw [e] at h0; cases h0
    | some x =>
      rw [e] at h0
      obtain ⟨k, b, u⟩ := x
      cases h0
      exact ⟨k, b, rfl, rfl⟩
  · have all : ∀ {l : List (List Key × V)} {m : List (List Key × Addr × Value)}, KT H l m → ∀ x ∈ m, (tupleKind (mixKind X.prog X.w)).is s.heap x.1 x.2.1 := by
      intro l m q
      induction q with
      | nil => intro x hx; cases hx
      | @cons p q ps qs hq t ih =>
        intro x hx
        rcases List.mem_cons.mp hx with e | hx
        · subst e
          exact key_of I.hok (by rw [← hq.1]; exact hq.2.1)
        · exact ih x hx
    exact tupleKind_stays.stays (fun b o _ _ e _ => hk b o (Nat.ne_of_lt (Heap.lt_size e)) List.not_mem_nil e) (all e4 x hx)
  · obtain ⟨o, es, ep, d1, d2, d3, d4, d5, d6⟩ := hd
    have np : H s.heap.objs.size = none := I.hok.fresh (Nat.le_refl _)
    have kt : KT H (putVs [] ws) (storedAllH [] xs) := kt_all (P := X.prog) (w := X.w) .nil e4
    obtain ⟨r1, r2⟩ := puts_rel (aw := []) (ak := []) rfl .nil e5 e6
    refine ⟨.ref s.heap.objs.size, _, I.laid (t' := tk) (o := .dT (putVs [] ws)) (fun b u e => hk b u List.not_mem_nil e) (Nat.le_refl _) ?_, rfl, go _ _ np r1 r2⟩
    refine ⟨?_, beq_eq_false_iff_ne.mpr (Nat.ne_of_gt I.big), storedAllH [] xs, kt_new (P := X.prog) (w := X.w) kt np, o, es, ep, d1, d2, d3, d4, d6⟩
    rw [kt_len kt]
    refine Nat.le_trans (storedAllH_length xs []) ?_
    rw [List.length_nil, Nat.zero_add, hl]; exact hz
def rDct (K : PySem.W.Frag) : List V → Hp → VK → Prop := fun vs H Q => ∃ F a xs kvs, Same F H ∧ vs = [.ref a] ∧ DqAll K F xs (kvs.map pairD) ∧ (H a = some (.lst xs) ∨ ∃ o : Obj, o.dict = none ∧ H a = some (.frz o (.tup xs))) ∧
  ∀ (p : Addr) (ws : List (List Key × V)), H p = none → ws.map (·.1) = (putAll [] kvs).map (·.1) → DqAll K F (ws.map (·.2)) ((putAll [] kvs).map (·.2)) → Q (.ref p) (upd H p (.dT ws))
theorem call_dct (hc : X.calm = true) (hu : X.A.units + 4 < cLine) : CallR X (.type "dict") (rDct X.K) := by
  intro pins s σ H vs us Q I r h
  obtain ⟨F, a, xs, kvs, f, rfl, q, ha, go⟩ := h
  obtain ⟨u, rfl, ru⟩ := r.one
  cases ru
  rcases ha with ha | ⟨o, ho, ha⟩
  · obtain ⟨its, rv, pl, hz⟩ := I.list (SqL.of ha)
    obtain ⟨o, n, h1, h2, h3, h4⟩ := pl
    exact dict_road (T := "list") hc hu I f rv q hz (fun Ts ps => ⟨_, _, PairArg.list a its.toArray Ts ps, fun h => ⟨⟨o, n, h1, h2, h3, h4⟩, h⟩⟩) go
  · obtain ⟨h1, hz, its, rv, o', h2, h3, n, h4⟩ := I.hok _ _ ha
    rw [h1] at h2
    cases h2
    exact dict_road (T := "tuple") hc hu I f rv q hz (fun Ts ps => ⟨_, _, PairArg.tuple a its.toArray Ts ps, fun h => ⟨⟨o, n, h1, h3, ho, h4⟩, h⟩⟩) go
def bDct : OB := fun ds k => match ds with
  | [.tuple xs] => ∃ kvs, kvs ≠ [] ∧ xs = kvs.map pairD ∧ k (.dT (putAll [] kvs))
  | [.list xs] => ∃ kvs, xs = kvs.map pairD ∧ k (.dT (putAll [] kvs))
  | _ => False
theorem bd_dct (hc : X.calm = true) (hu : X.A.units + 4 < cLine) : BD X (.type "dict") bDct := ⟨_, call_dct hc hu, fun {F H ds vs k Q'} s l ho go => by
  unfold bDct at ho
  split at ho
  · obtain ⟨kvs, ne, rfl, hk⟩ := ho
    obtain ⟨v, rfl, q⟩ := lk1 l
    cases q with
    | d q => cases q with
      | @tup a xs _ h t =>
        obtain ⟨o, ho, h⟩ := h
        have nk : tupK xs = false := by
          cases kvs with
          | nil => exact absurd rfl ne
          | cons p kvs =>
            cases t with
            | cons t1 t =>
              cases t1
              rfl
        unfold tupO at h
        rw [nk] at h
        exact ⟨F, a, xs, kvs, s, rfl, t, .inr ⟨o, ho, s _ _ h⟩, fun p ws hp h1 h2 => go _ _ _ _ _ (.dT hp h1 h2) hk⟩
  · obtain ⟨kvs, rfl, hk⟩ := ho
    obtain ⟨v, rfl, q⟩ := lk1 l
    obtain ⟨a, xs, rfl, h, t⟩ := lstH s q
    exact ⟨F, a, xs, kvs, s, rfl, t, .inl h, fun p ws hp h1 h2 => go _ _ _ _ _ (.dT hp h1 h2) hk⟩
  · exact ho.elim⟩
end
/-! d[k] = v -/
/-- slot i holds an own thing -/
def ownN (ρ : En) (i : Nat) (k : N → Prop) : Prop := match ρ[i]? with
  | some (.v n) => k n
  | some (.p n) => k n
  | _ => False
def putN (ρ : En) (i : Nat) (n : N) : En := match ρ[i]? with
  | some (.v _) => ρ.set i (.v n)
  | some (.p _) => ρ.set i (.p n)
  | _ => ρ
end DL

/-! own exceptions over ValueError whose __init__ says super().__init__(..) -/
namespace DL
open PySem PySem.Spec PyProof.Rows L2
/-- the def of __init__ within a class -/
def initS (s : Stmt) : Stmt := match s with
  | .ClassDef _ _ _ b _ _ _ _ _ _ _ => b.getD 0 (.Pass ⟨0, 0, 0, 0⟩)
  | _ => .Pass ⟨0, 0, 0, 0⟩
def plS : Sem Bool := do return ((← (pure (some false) : Sem (Option Bool))).getD true)
/-- what the written part says of an own __init__ -/
structure IniK (P : Program) (K : PySem.W.Frag) (C fI : Addr) (st : Stmt) (qual : Str) : Prop where
  fn : ∃ oc od kV doc pm an cda ct cc osl, K.lookup fI = some ⟨oc, od, .func (PySem.W.ksFn "__init__" qual (defArgs st) (defBody st) (defScope st) .none kV doc pm an (.ref cda) ct cc), osl⟩ ∧ PySem.W.codeIn K (.ref cda) qual = true ∧
    (∃ ccl cdd vs ccs file tf, K.lookup cda = some ⟨ccl, cdd, .fields vs, ccs⟩ ∧ vs[2]? = some (.str file tf) ∧ ((P.main.file : Str) == file) = true) ∧ ∃ cl cld csl, K.lookup cc = some ⟨cl, cld, .cell (some (.ref C)), csl⟩
  cls : ∃ nm q N bs bm sn sub ab col dd k0 k1 k2 k3 k5, K.lookup C = some (excClassObj nm q C N bs bm true sn sub ab col dd k0 k1 k2 k3 k5 "ValueError.__new__") ∧ PySem.HandSPX.refsVE bm = true
  meth : PySem.W.ks_superIn K C C "__init__" = some (some (.builtin "ValueError.__init__"))
  ve : PySem.W.subIn K (.ref C) (.type "ValueError") = some true
  third : PySem.W.nsIn K cStatics "thirdparty.any" = some none
  self : PySem.W.mroIn K C (.ref C) = some true
  top : (P.main.scope.names.lookup ("super" : Str)).isSome = false
section
open PySem.W PySem.Calls PyProof.Rows PyProof.V
variable {P : Program} {w : World} {A : Around} {E : Value → Shared → Prop}
/-- the wrapper of ValueError.__init__, called -/
theorem mw_call {K : Frag} {C x u t0 : Addr} {rest : List Value} {h : Heap} {g : Array GenState} {d : PySem.Drawn} {t : Nat} {os : OsState} {Q : Value → Shared → Prop} {nm q : Str} {N : Addr} {bs bm : List Value} {sn : List Str} {sub : List Value} {ab : Bool} {col : Option Bool} {dd : Option Addr} {k0 k1 k2 k3 k5 : Option Value}
    (hC : h.get? C = some (excClassObj nm q C N bs bm true sn sub ab col dd k0 k1 k2 k3 k5 "ValueError.__new__")) (he : h.get? x = some (PySem.HandSPX.excO C t0)) (hu : h.get? u = some (kxs_mw "ValueError.__init__" x)) (hz : rest.length ≤ sizeLine)
    (fin : ∀ h' t1, (∀ b o, b ≠ x → h.get? b = some o → h'.get? b = some o) → h'.get? x = some (PySem.HandSPX.excO C t1) → Q .none ⟨h', g, d, t, os⟩) :
    wpAny (model P w) A (call (.ref u) rest) Q E ⟨h, g, d, t, os⟩ := by
  refine wpAny_call (codeAny_of_tree ?_)
  show wpAny _ A.in1 (callAny (.ref u) ⟨rest, []⟩) _ _ _
  unfold callAny
  refine wpAny_bind (wpAny_load hu ?_)
  dsimp only [kxs_mw]
  refine KFB.if_so (by decide) ?_
  refine KFB.if_so (by decide) ?_
  refine wpAny_bind (check_bound_init F.excBase_ValueError.toExcCallFacts hC he rfl ?_)
  refine wpAny_bind (wpAny_pure (wpAny_pure ?_))
  refine ⟨plainId_quiet F.excBase_ValueError.init.plain _, codeAny_builtin F.excBase_ValueError.initEntry ?_⟩
  exact exc_init_tree (cls := .ref C) (t0 := t0) (dv := none) (c2 := .none) (c3 := .none) (b4 := .bool false) he hz fun h' k e' _ => fin h' _ k e'
/-- super().__init__(..) up to its call -/
theorem super_init {K : Frag} {C fI cda cc x t0 : Addr} {st : Stmt} {qual self : Str} {h : Heap} {g : Array GenState} {d : PySem.Drawn} {t : Nat} {os : OsState} {L : Addr} {m mg mb : Str → Option Value} {p0 p1 p2 p3 : Pos} {es : List Expr} {Q : Value → Shared → Prop} {kV doc pm ct oc : Value} {an od : Option Addr} {osl : Array (Option Value)}
    (I : IniK P K C fI st qual) (X : K.In h) (glob : h.Ns mainGlobals mg) (blt : h.Ns builtinsNs mb) (sup : mg "super" = none) (sub : mb "super" = some (.type "super")) (hn : h.Ns L m) (hm : m self = some (.ref x))
    (lk : K.lookup fI = some ⟨oc, od, .func (PySem.W.ksFn "__init__" qual (defArgs st) (defBody st) (defScope st) .none kV doc pm an (.ref cda) ct cc), osl⟩)
    (code : ∃ ccl cdd vs ccs file tf, K.lookup cda = some ⟨ccl, cdd, .fields vs, ccs⟩ ∧ vs[2]? = some (.str file tf) ∧ ((P.main.file : Str) == file) = true) (cell : ∃ cl cld csl, K.lookup cc = some ⟨cl, cld, .cell (some (.ref C)), csl⟩)
    (he : h.get? x = some (PySem.HandSPX.excO C t0)) (hp : ∃ ar, ((defArgs st).posonlyargs ++ (defArgs st).args).head? = some ar ∧ ar.arg = self)
    (sc1 : (defScope st).names.lookup ("super" : Str) = some .globalImplicit) (sc2 : (defScope st).names.lookup ("__class__" : Str) = some .free) (sc3 : (defScope st).names.lookup self = some .local) (sc4 : (defScope st).kind = .function)
    (fin : ∀ h' u, (∀ b o, h.get? b = some o → h'.get? b = some o) → h'.get? u = some (kxs_mw "ValueError.__init__" x) → u ≠ x →
      wpAny (model P w) A (callWith p3 (.ref u) [] (backTo p3 (starEach es (ksEnv qual (defScope st) L fI (.ref cda) cc))) []) Q E ⟨h', g, d, t + 1, os⟩)
    (hcall : eval (.Call (.Attribute (.Call (.Name "super" p0) [] [] p1) "__init__" p2) es [] p3) (ksEnv qual (defScope st) L fI (.ref cda) cc) = (do
      let ov ← attributeBase (.Call (.Name "super" p0) [] [] p1) "__init__" (ksEnv qual (defScope st) L fI (.ref cda) cc) (eval (.Call (.Name "super" p0) [] [] p1) (ksEnv qual (defScope st) L fI (.ref cda) cc))
      standAt p2.atName
      let (f, first) ← holding [ov] (getMethod ov "__init__" plS)
      callWith p3 f first (backTo p3 (starEach es (ksEnv qual (defScope st) L fI (.ref cda) cc))) [])) :
    _root_.PySem.wpAt (model P w) A (.func (defBody st) (ksEnv qual (defScope st) L fI (.ref cda) cc)) (eval (.Call (.Attribute (.Call (.Name "super" p0) [] [] p1) "__init__" p2) es [] p3) (ksEnv qual (defScope st) L fI (.ref cda) cc)) Q E ⟨h, g, d, t, os⟩ := by
  obtain ⟨ccl, cdd, vs, ccs, file, tf, hcode, hvs, hfile⟩ := code
  obtain ⟨cl, cld, csl, hcell⟩ := cell
  obtain ⟨ar, har, ear⟩ := hp
  obtain ⟨nm, q, N, bs, bm, sn, sb, ab, col, dd, k0, k1, k2, k3, k5, hC, hbm⟩ := I.cls
  have oC := X _ _ hC
  have hcl : PySem.W.clsIn K C = some { name := nm, bases := bs, mro := .ref C :: bm, ns := N, qualname := q, hasDict := true, slotNames := sn, subclasses := sb, abstract := ab, collection := col, hasDel := false } := by unfold PySem.W.clsIn; rw [hC] <;> rfl
  have xC : x ≠ C := fun z => by
    rw [z, oC] at he
    cases he
  have I0 : PySem.W.InstAt h x (PySem.HandSPX.excO C t0) C none := ⟨he, rfl, rfl, trivial⟩
  refine ks_wpAt_MethodCall ?_ hcall
  refine ks_wpAt_super_base (env := ksEnv qual (defScope st) L fI (.ref cda) cc) sc1 sc2 (by decide +kernel) rfl (X _ _ lk) rfl har rfl (X _ _ hcode) rfl hvs hfile I.top ?_
  refine ks_loadName_global sc4 sc1 (loadGlobal_builtin (env := ksEnv qual (defScope st) L fI (.ref cda) cc) glob sup blt sub ⟨rfl, ?_⟩)
  refine wpAny_loadName_free sc4 sc2 rfl ⟨_, X _ _ hcell, rfl⟩ ?_
  rw [ear]
  refine wpAny_loadName_local sc4 sc3 hn hm ?_
  refine ks_wpAny_isType_cls oC rfl ⟨rfl, ?_⟩
  refine ks_wpAny_call_super oC rfl he rfl (fun c e => by cases e) (looks_mroIn X I.self) (fun h1 hso kp => ?_)
  have X1 : K.In h1 := X.keeps kp
  have hm := I.meth
  unfold PySem.W.ks_superIn at hm
  rw [hcl] at hm
  have I1 : PySem.W.InstAt h1 x (PySem.HandSPX.excO C t0) C none := ⟨kp _ _ he, rfl, rfl, trivial⟩
  refine kxs_getMethod kxs_ValueError hso (looks_opaque X1 I.third) (l₀ := .ref C :: bm) ?_ rfl X1 hm (I1.type.andThen (looks_subIn X1 I.ve)) xC (by decide +kernel) ?_
  · exact fun A Q E s k q => wpAny_bind ((looks_clsIn X1 hcl) A _ E s k (wpAny_pure q))
  · exact fin _ _ (fun b o e => Heap.get?_push_of_some _ (kp _ _ e)) (Heap.get?_push_at rfl rfl) (Ne.symm (Nat.ne_of_lt (Heap.lt_size (kp _ _ he))))
/-- the whole of __init__(self): super().__init__() -/
theorem ini_run0 {K : Frag} {C fI x t0 : Addr} {st : Stmt} {qual : Str} {h : Heap} {g : Array GenState} {d : PySem.Drawn} {t : Nat} {os : OsState} {mg mb : Str → Option Value} {p0 p1 p2 p3 p4 : Pos} {R : Result → Shared → Prop} {fd : FuncData} {osl : Array (Option Value)} {oc : Value} {od : Option Addr}
    (I : IniK P K C fI st qual) (X : K.In h) (glob : h.Ns mainGlobals mg) (blt : h.Ns builtinsNs mb) (sup : mg "super" = none) (sub : mb "super" = some (.type "super")) (lim : h.NoLimit) (room : A.depth < recursionLimit)
    (he : h.get? x = some (PySem.HandSPX.excO C t0)) (hp : ∃ ar, ((defArgs st).posonlyargs ++ (defArgs st).args).head? = some ar ∧ ar.arg = ("self" : Str))
    (body : defBody st = [.Expr (.Call (.Attribute (.Call (.Name "super" p0) [] [] p1) "__init__" p2) [] [] p3) p4])
    (sc1 : (defScope st).names.lookup ("super" : Str) = some .globalImplicit) (sc2 : (defScope st).names.lookup ("__class__" : Str) = some .free) (sc3 : (defScope st).names.lookup ("self" : Str) = some .local) (sc4 : (defScope st).kind = .function)
    (sc5 : ∀ x ∈ (defScope st).names, x.2 ≠ .cell) (sc6 : (defScope st).isCoroutine = false) (sc7 : (defScope st).isGenerator = false)
    (bind : ∀ (s : Shared) (kV doc pm ct : Value) (an : Option Addr) (cda cc : Addr), BindsTo s (PySem.W.ksFn "__init__" qual (defArgs st) (defBody st) (defScope st) .none kV doc pm an (.ref cda) ct cc) ⟨[.ref x], []⟩ [("self", .ref x)])
    (hi : ∀ (L cda cc : Addr), interactive (PySem.W.ksEnv qual (defScope st) L fI (.ref cda) cc) = false) (hsw : ∀ (L cda cc : Addr), swapsWith (.Call (.Attribute (.Call (.Name "super" p0) [] [] p1) "__init__" p2) [] [] p3) none p4.line (PySem.W.ksEnv qual (defScope st) L fI (.ref cda) cc) = pure false)
    (hcall : ∀ (L cda cc : Addr), eval (.Call (.Attribute (.Call (.Name "super" p0) [] [] p1) "__init__" p2) [] [] p3) (PySem.W.ksEnv qual (defScope st) L fI (.ref cda) cc) = (do
      let ov ← attributeBase (.Call (.Name "super" p0) [] [] p1) "__init__" (PySem.W.ksEnv qual (defScope st) L fI (.ref cda) cc) (eval (.Call (.Name "super" p0) [] [] p1) (PySem.W.ksEnv qual (defScope st) L fI (.ref cda) cc))
      standAt p2.atName
      let (f, first) ← holding [ov] (getMethod ov "__init__" plS)
      callWith p3 f first (backTo p3 (starEach [] (PySem.W.ksEnv qual (defScope st) L fI (.ref cda) cc))) []))
    (fin : ∀ h' t1 tk, (∀ b o, b ≠ x → h.get? b = some o → h'.get? b = some o) → h'.get? x = some (PySem.HandSPX.excO C t1) → R (.ok (.ret .none)) ⟨h', g, d, tk, os⟩) :
    codeAny (model P w) A (.call (.ref fI) ⟨[.ref x], []⟩) R ⟨h, g, d, t, os⟩ := by
  obtain ⟨oc, od, kV, doc, pm, an, cda, ct, cc, osl, lk, hcd, code, cell⟩ := I.fn
  refine ks_codeAny_call_defAt (fd := PySem.W.ksFn "__init__" qual (defArgs st) (defBody st) (defScope st) .none kV doc pm an (.ref cda) ct cc) (body := defBody st) (binds := [("self", .ref x)]) room (X _ _ lk) rfl lim (codeRec_of X hcd) rfl (bind _ _ _ _ _ _ _ _) sc5 (fun y hy => ?_) (fun h0 hns kp => ?_) sc6 sc7 sc4
  · rw [List.mem_singleton.mp hy]; exact sc3
  · have e0 := kp _ _ he
    show _root_.PySem.wpAt _ _ (.func (defBody st) (ksEnv qual (defScope st) h.objs.size fI (.ref cda) cc)) (execs (defBody st) (ksEnv qual (defScope st) h.objs.size fI (.ref cda) cc)) _ _ _
    rw [body]
    refine ks_wpAt_execs_cons (ks_wpAt_Expr_any ?_ (hi _ _ _) (hsw _ _ _))
    rw [← body]
    refine super_init (es := []) (m := fun y => [(("self" : Str), Value.ref x)].reverse.lookup y) (self := "self") I (X.keeps kp) (glob.keeps kp) (blt.keeps kp) sup sub hns rfl lk code cell e0 hp sc1 sc2 sc3 sc4 (fun h1 u k1 hu ne => ?_) (hcall _ _ _)
    refine kxs_callWith (i := "ValueError.__init__") (x := x) rfl (evalArgs_empty ⟨hu, ?_⟩)
    obtain ⟨nm, q, N, bs, bm, sn, sb, ab, col, dd, k0, k1', k2, k3, k5, hC, hbm⟩ := I.cls
    refine mw_call (K := K) (k1 _ _ (kp _ _ (X _ _ hC))) (k1 _ _ e0) hu (by decide) fun h2 t1 k2 e2 => ?_
    show _root_.PySem.wpAt _ _ _ (execs [] _) _ _ _
    refine _root_.PySem.wpAt_of_wpAny ?_
    refine wpAny_execs_nil ?_
    exact fin h2 t1 _ (fun b o hb e => k2 b o hb (k1 _ _ (kp _ _ e))) e2
/-- the whole of __init__(self, f): super().__init__(f); self.f = f -/
theorem ini_run1 {K : Frag} {C fI x t0 : Addr} {st : Stmt} {qual f : Str} {u : Value} {h : Heap} {g : Array GenState} {d : PySem.Drawn} {t : Nat} {os : OsState} {mg mb : Str → Option Value} {p0 p1 p2 p3 p4 p5 p6 p7 p8 p9 : Pos} {R : Result → Shared → Prop}
    (I : IniK P K C fI st qual) (X : K.In h) (glob : h.Ns mainGlobals mg) (blt : h.Ns builtinsNs mb) (sup : mg "super" = none) (sub : mb "super" = some (.type "super")) (lim : h.NoLimit) (room : A.depth < recursionLimit)
    (he : h.get? x = some (PySem.HandSPX.excO C t0)) (hp : ∃ ar, ((defArgs st).posonlyargs ++ (defArgs st).args).head? = some ar ∧ ar.arg = ("self" : Str))
    (body : defBody st = [.Expr (.Call (.Attribute (.Call (.Name "super" p0) [] [] p1) "__init__" p2) [.Name f p5] [] p3) p4, .Assign [.Attribute (.Name "self" p6) f p7] (.Name f p8) p9])
    (sc1 : (defScope st).names.lookup ("super" : Str) = some .globalImplicit) (sc2 : (defScope st).names.lookup ("__class__" : Str) = some .free) (sc3 : (defScope st).names.lookup ("self" : Str) = some .local) (sc4 : (defScope st).kind = .function)
    (sc5 : ∀ x ∈ (defScope st).names, x.2 ≠ .cell) (sc6 : (defScope st).isCoroutine = false) (sc7 : (defScope st).isGenerator = false) (sc8 : (defScope st).names.lookup f = some .local) (hf : (f == ("self" : Str)) = false) (hdb : (f == ("__debug__" : Str)) = false)
    (bind : ∀ (s : Shared) (kV doc pm ct : Value) (an : Option Addr) (cda cc : Addr), BindsTo s (PySem.W.ksFn "__init__" qual (defArgs st) (defBody st) (defScope st) .none kV doc pm an (.ref cda) ct cc) ⟨[.ref x, u], []⟩ [("self", .ref x), (f, u)])
    (hi : ∀ (L cda cc : Addr), interactive (PySem.W.ksEnv qual (defScope st) L fI (.ref cda) cc) = false) (hsw : ∀ (L cda cc : Addr), swapsWith (.Call (.Attribute (.Call (.Name "super" p0) [] [] p1) "__init__" p2) [.Name f p5] [] p3) none p4.line (PySem.W.ksEnv qual (defScope st) L fI (.ref cda) cc) = pure false)
    (hsw2 : ∀ (L cda cc : Addr), swapsWith (.Name f p8) (some (.Attribute (.Name "self" p6) f p7)) p9.line (PySem.W.ksEnv qual (defScope st) L fI (.ref cda) cc) = pure false)
    (hst : ∀ (L cda cc : Addr), starEach [.Name f p5] (PySem.W.ksEnv qual (defScope st) L fI (.ref cda) cc) = [(false, eval (.Name f p5) (PySem.W.ksEnv qual (defScope st) L fI (.ref cda) cc))])
    (hcall : ∀ (L cda cc : Addr), eval (.Call (.Attribute (.Call (.Name "super" p0) [] [] p1) "__init__" p2) [.Name f p5] [] p3) (PySem.W.ksEnv qual (defScope st) L fI (.ref cda) cc) = (do
      let ov ← attributeBase (.Call (.Name "super" p0) [] [] p1) "__init__" (PySem.W.ksEnv qual (defScope st) L fI (.ref cda) cc) (eval (.Call (.Name "super" p0) [] [] p1) (PySem.W.ksEnv qual (defScope st) L fI (.ref cda) cc))
      standAt p2.atName
      let (f', first) ← holding [ov] (getMethod ov "__init__" plS)
      callWith p3 f' first (backTo p3 (starEach [.Name f p5] (PySem.W.ksEnv qual (defScope st) L fI (.ref cda) cc))) []))
    (sa : PySem.W.findIn K (.ref C) "__setattr__" = some (some (.builtin "object.__setattr__"))) (hno : PySem.W.findIn K (.ref C) f = some none) (kx : ∀ b o, K.lookup b = some o → b ≠ x)
    (fin : ∀ h' t1 dx tk, (∀ b o, b ≠ x → h.get? b = some o → h'.get? b = some o) → x < dx → h'.get? x = some ({ cls := .ref C, dict := some dx, data := .fields #[.ref t1, .none, .none, .none, .bool false, .none] } : Obj) →
      h'.Ns1 dx (fun y => if y = f then some u else none) → R (.ok (.ret .none)) ⟨h', g, d, tk, os⟩) :
    codeAny (model P w) A (.call (.ref fI) ⟨[.ref x, u], []⟩) R ⟨h, g, d, t, os⟩ := by
  obtain ⟨oc, od, kV, doc, pm, an, cda, ct, cc, osl, lk, hcd, code, cell⟩ := I.fn
  refine ks_codeAny_call_defAt (fd := PySem.W.ksFn "__init__" qual (defArgs st) (defBody st) (defScope st) .none kV doc pm an (.ref cda) ct cc) (body := defBody st) (binds := [("self", .ref x), (f, u)]) room (X _ _ lk) rfl lim (codeRec_of X hcd) rfl (bind _ _ _ _ _ _ _ _) sc5 (fun y hy => ?_) (fun h0 hns kp => ?_) sc6 sc7 sc4
  · rcases List.mem_cons.mp hy with rfl | hy
    · exact sc3
    · rw [List.mem_singleton.mp hy]; exact sc8
  · have e0 := kp _ _ he
    have ms : (fun y => [(("self" : Str), Value.ref x), (f, u)].reverse.lookup y) ("self" : Str) = some (.ref x) := by
      show List.lookup ("self" : Str) [(f, u), (("self" : Str), Value.ref x)] = _
      rw [List.lookup_cons, show (("self" : Str) == f) = false by rw [beq_eq_false_iff_ne] at hf ⊢; exact Ne.symm hf]
      rfl
    have mf : (fun y => [(("self" : Str), Value.ref x), (f, u)].reverse.lookup y) f = some u := by
      show List.lookup f [(f, u), (("self" : Str), Value.ref x)] = _
      rw [List.lookup_cons, beq_self_eq_true]
    have Lx : h.objs.size ≠ x := Ne.symm (Nat.ne_of_lt (Heap.lt_size he))
    show _root_.PySem.wpAt _ _ (.func (defBody st) (ksEnv qual (defScope st) h.objs.size fI (.ref cda) cc)) (execs (defBody st) (ksEnv qual (defScope st) h.objs.size fI (.ref cda) cc)) _ _ _
    rw [body]
    refine ks_wpAt_execs_cons (ks_wpAt_Expr_any ?_ (hi _ _ _) (hsw _ _ _))
    rw [← body]
    refine super_init (es := [.Name f p5]) (m := fun y => [(("self" : Str), Value.ref x), (f, u)].reverse.lookup y) (self := "self") I (X.keeps kp) (glob.keeps kp) (blt.keeps kp) sup sub hns ms lk code cell e0 hp sc1 sc2 sc3 sc4 (fun h1 v k1 hv ne => ?_) (hcall _ _ _)
    rw [hst]
    refine kxs_callWith (i := "ValueError.__init__") (x := x) (by rfl) (evalArgs_plain (spliced_cons (PySem.ESX.ldL (hns.keeps k1) mf (spliced_nil ⟨hv, ?_⟩) sc4 sc8 hdb)))
    obtain ⟨nm, q, N, bs, bm, sn, sb, ab, col, dd, k0, k1', k2, k3, k5, hC, hbm⟩ := I.cls
    have hcl : PySem.W.clsIn K C = some { name := nm, bases := bs, mro := .ref C :: bm, ns := N, qualname := q, hasDict := true, slotNames := sn, subclasses := sb, abstract := ab, collection := col, hasDel := false } := by unfold PySem.W.clsIn; rw [hC] <;> rfl
    refine mw_call (K := K) (k1 _ _ (kp _ _ (X _ _ hC))) (k1 _ _ e0) hv (show 1 ≤ sizeLine by decide) fun h2 t1 k2 e2 => ?_
    have nx : ∀ {b : Addr} {o : Obj}, K.lookup b = some o → b ≠ x := fun {b o} z => kx b o z
    have X2 : K.In h2 := fun b o z => k2 b o (nx z) (k1 _ _ (kp _ _ (X _ _ z)))
    have ns2 : h2.Ns h.objs.size (fun y => [(("self" : Str), Value.ref x), (f, u)].reverse.lookup y) := (hns.keeps k1).at fun o e => k2 _ _ Lx e
    refine ks_wpAt_execs_cons (ks_wpAt_Assign_Attr (_root_.PySem.wpAt_of_wpAny (PySem.ESX.ldL ns2 mf (PySem.ESX.ldL ns2 ms ?_ sc4 sc3 (by decide)) sc4 sc8 hdb)) (hsw2 _ _ _))
    refine PySem.W.set_plain X2 (ox := PySem.HandSPX.excO C t1) (od := none) ⟨e2, rfl, rfl, trivial⟩ sa (PySem.HandSPX.exc_osa X2 e2 hcl (show PySem.HandSPX.refsVE (.ref C :: bm) = true from hbm) rfl hno fun h3 tk' dx k3 dn dne hx hn => ?_)
    show _root_.PySem.wpAt _ _ _ (execs [] _) _ _ _
    refine _root_.PySem.wpAt_of_wpAny (wpAny_execs_nil ?_)
    exact fin h3 t1 dx _ (fun b o hb e => k3 b o hb (k2 b o hb (k1 _ _ (kp _ _ e)))) (Nat.lt_of_lt_of_le (Heap.lt_size e2) dn) hx hn
end
section
variable {X : Cx} {e : Expr} {ta : TA} {x : Str} {p pos : Pos} {C fI : Addr} {st : Stmt} {qual : Str}
/-- what a class gives: its own __init__ called on a new exception of it -/
def Ini1 (P : Program) (w : World) (K : PySem.W.Frag) (C fI : Addr) (f : Str) : Prop := ∀ (A : Around) (y t0 : Addr) (u : Value) (h : Heap) (g : Array GenState) (d : PySem.Drawn) (t : Nat) (os : OsState) (mg mb : Str → Option Value) (R : Result → Shared → Prop), K.In h → h.Ns mainGlobals mg → h.Ns builtinsNs mb → mg "super" = none → mb "super" = some (.type "super") → h.NoLimit → A.depth < recursionLimit →
  h.get? y = some (PySem.HandSPX.excO C t0) → (∀ b o, K.lookup b = some o → b ≠ y) →
  (∀ h' t1 dx tk, (∀ b o, b ≠ y → h.get? b = some o → h'.get? b = some o) → y < dx → h'.get? y = some ({ cls := .ref C, dict := some dx, data := .fields #[.ref t1, .none, .none, .none, .bool false, .none] } : Obj) →
      h'.Ns1 dx (fun z => if z = f then some u else none) → R (.ok (.ret .none)) ⟨h', g, d, tk, os⟩) → codeAny (model P w) A (.call (.ref fI) ⟨[.ref y, u], []⟩) R ⟨h, g, d, t, os⟩
def Ini0 (P : Program) (w : World) (K : PySem.W.Frag) (C fI : Addr) : Prop := ∀ (A : Around) (y t0 : Addr) (h : Heap) (g : Array GenState) (d : PySem.Drawn) (t : Nat) (os : OsState) (mg mb : Str → Option Value) (R : Result → Shared → Prop), K.In h → h.Ns mainGlobals mg → h.Ns builtinsNs mb → mg "super" = none → mb "super" = some (.type "super") → h.NoLimit → A.depth < recursionLimit →
  h.get? y = some (PySem.HandSPX.excO C t0) → (∀ b o, K.lookup b = some o → b ≠ y) →
  (∀ h' t1 tk, (∀ b o, b ≠ y → h.get? b = some o → h'.get? b = some o) → h'.get? y = some (PySem.HandSPX.excO C t1) → R (.ok (.ret .none)) ⟨h', g, d, tk, os⟩) → codeAny (model P w) A (.call (.ref fI) ⟨[.ref y], []⟩) R ⟨h, g, d, t, os⟩
/-- C(e): an exception with one field -/
theorem pmk_ini1 {f : Str} (T : OexC X.K C) (iC : PySem.W.findIn X.K (.ref C) "__init__" = some (some (.ref fI))) (tI : PySem.W.typeIn X.K (.ref fI) = some (.type "function")) (Y : Ini1 X.prog X.w X.K C fI f) (sup : X.mg "super" = none)
    (hd : Room 2 X.A) (hg : Gl X x) (hm : X.mg x = some (.ref C)) (ha : PA X [e] ta)
    (hdb : (x == ("__debug__" : Str)) = false := by decide) (he : starEach [e] X.env = (false, eval e X.env) :: starEach [] X.env := by rfl) (hpl : (backTo pos (starEach [] X.env)).any (·.1) = false := by rfl) :
    PMk X (.Call (.Name x p) [e] [] pos) (fun σ H Q => ta σ H fun vs H1 => ∃ v, vs = [v] ∧ ∀ dx, H1 dx = none → Q (.ref C) (some dx) (upd H1 dx (.xd [(f, v)]))) := by
  intro pins s σ H Q I h
  obtain ⟨nm, q, N, bs, bm, sn, sub, ab, col, dd, k0, k1, k2, k3, k5, hC, hbm⟩ := T.cls
  refine wpAny_Call_Name_kw (ld_glob I hg hm ?_ hdb)
  refine PySem.W.callWith_K (h₀ := X.base) I.ok.mod.kin T.kC (thn (ha.run pos pins s σ H _ I h) fun us s1 ⟨vs, H1, I1, r1, v, ev, q1⟩ => ⟨I1.kIn, ?_⟩) he hpl
  subst ev
  obtain ⟨u, rfl, ru⟩ := r1.one
  show wpAny _ _ (call (.ref C) [u]) _ _ _
  obtain ⟨hp, g, dr, tk, os⟩ := s1
  have kk : ∀ b o, hp.get? b = some o → ((hp.push (PySem.W.kdv_tup [u])).push (PySem.HandSPX.excO C hp.objs.size)).get? b = some o := fun b o e => Heap.get?_push_of_some _ (Heap.get?_push_of_some _ e)
  have hget : ((hp.push (PySem.W.kdv_tup [u])).push (PySem.HandSPX.excO C hp.objs.size)).get? (hp.objs.size + 1) = some (PySem.HandSPX.excO C hp.objs.size) := by heap_get
  have bk : ∀ b o, X.base.get? b = some o → ((hp.push (PySem.W.kdv_tup [u])).push (PySem.HandSPX.excO C hp.objs.size)).get? b = some o := fun b o z => kk b o (I1.bk b o z)
  obtain ⟨mb, hb, hbb⟩ := I1.ok.mod.blt
  have hn : H1 (hp.objs.size + 1) = none := I1.hok.fresh (Nat.le_succ _)
  refine wpAny_call (PySem.HandSPX.call_own F.excBase_ValueError (fun Y => PySem.HandSPX.refsVE_contains Y bm hbm) (I1.kIn _ _ hC) (PySem.W.looks_findIn I1.kIn iC) (fun self => PySem.W.bind_fn I1.kIn self tI) (show 1 ≤ sizeLine by decide)
    (Y _ _ _ u _ g dr tk os X.mg mb _ (fun b o z => kk b o (I1.kIn b o z)) (I1.ok.mod.glob.keeps bk) (hb.keeps bk) sup ((hbb _ (by decide)).trans (by rfl)) (I1.ok.mod.nolimit.keeps bk) (hd.make C [u] []).depth hget (fun b o z => Nat.ne_of_lt (Nat.lt_succ_of_lt (Heap.lt_size (I1.kIn b o z)))) fun h3 t1 dx tk' k3 lt hx hns => ?_))
  obtain ⟨G, g1', g2'⟩ := restrict h3 fun b => decide (b ≠ hp.objs.size + 1)
  have gk : ∀ b, b ≠ hp.objs.size + 1 → G.get? b = h3.get? b := fun b hb => g1' b (decide_eq_true hb)
  have ge : G.get? (hp.objs.size + 1) = none := g2' _ (by simp)
  have dne : dx ≠ hp.objs.size + 1 := Nat.ne_of_gt lt
  have old : ∀ b o, hp.get? b = some o → G.get? b = some o := fun b o z => by
    have nb : b ≠ hp.objs.size + 1 := Nat.ne_of_lt (Nat.lt_succ_of_lt (Heap.lt_size z))
    rw [gk b nb]; exact k3 b o nb (kk b o z)
  have nd : H1 dx = none := I1.hok.fresh (Nat.le_of_lt (Nat.lt_of_succ_lt lt))
  have J := I1.laid (t' := tk') (a := dx) (o := .xd [(f, v)]) (h' := G) old (Nat.le_of_lt (Nat.lt_of_succ_lt lt)) ⟨_, hns.at fun o z => by rw [gk dx dne]; exact z, fun z => by
    show RelO (List.lookup z [(f, v)]) _
    rw [List.lookup_cons]
    by_cases hz : z = f
    · subst hz; rw [beq_self_eq_true, if_pos rfl]; exact ru
    · rw [if_neg hz, show (z == f) = false from beq_eq_false_iff_ne.mpr hz]; exact True.intro⟩
  refine ⟨rfl, hp.objs.size + 1, _, _, _, _, .ref C, some dx, rfl, J, fun b o z => ?_, ge, hx, ⟨rfl, rfl⟩, rfl, rfl, ?_, rfl, I1.bare, raises_own T.exC T.tyC, q1 dx nd⟩
  · by_cases hb : b = hp.objs.size + 1
    · rw [hb] at z; rw [ge] at z; cases z
    · rw [← gk b hb]; exact z
  · rw [upd_ne (Ne.symm dne)]; exact hn
/-- C(): an exception without fields -/
theorem pmk_ini0 (T : OexC X.K C) (iC : PySem.W.findIn X.K (.ref C) "__init__" = some (some (.ref fI))) (tI : PySem.W.typeIn X.K (.ref fI) = some (.type "function")) (Y : Ini0 X.prog X.w X.K C fI) (sup : X.mg "super" = none)
    (hd : Room 2 X.A) (hg : Gl X x) (hm : X.mg x = some (.ref C)) (hdb : (x == ("__debug__" : Str)) = false := by decide) :
    PMk X (.Call (.Name x p) [] [] pos) (fun σ H Q => Q (.ref C) none H) := by
  intro pins s σ H Q I h
  obtain ⟨nm, q, N, bs, bm, sn, sub, ab, col, dd, k0, k1, k2, k3, k5, hC, hbm⟩ := T.cls
  refine wpAny_Call_Name_kw (ld_glob I hg hm ?_ hdb)
  refine PySem.W.callWith_K0 I.kIn T.kC ?_
  show wpAny _ _ (call (.ref C) []) _ _ _
  obtain ⟨hp, g, dr, tk, os⟩ := s
  have kk : ∀ b o, hp.get? b = some o → ((hp.push (PySem.W.kdv_tup [])).push (PySem.HandSPX.excO C hp.objs.size)).get? b = some o := fun b o e => Heap.get?_push_of_some _ (Heap.get?_push_of_some _ e)
  have hget : ((hp.push (PySem.W.kdv_tup [])).push (PySem.HandSPX.excO C hp.objs.size)).get? (hp.objs.size + 1) = some (PySem.HandSPX.excO C hp.objs.size) := by heap_get
  have bk : ∀ b o, X.base.get? b = some o → ((hp.push (PySem.W.kdv_tup [])).push (PySem.HandSPX.excO C hp.objs.size)).get? b = some o := fun b o z => kk b o (I.bk b o z)
  obtain ⟨mb, hb, hbb⟩ := I.ok.mod.blt
  have hn : H (hp.objs.size + 1) = none := I.hok.fresh (Nat.le_succ _)
  refine wpAny_call (PySem.HandSPX.call_own F.excBase_ValueError (fun Y => PySem.HandSPX.refsVE_contains Y bm hbm) (I.kIn _ _ hC) (PySem.W.looks_findIn I.kIn iC) (fun self => PySem.W.bind_fn I.kIn self tI) (show 0 ≤ sizeLine by decide)
    (Y _ _ _ _ g dr tk os X.mg mb _ (fun b o z => kk b o (I.kIn b o z)) (I.ok.mod.glob.keeps bk) (hb.keeps bk) sup ((hbb _ (by decide)).trans (by rfl)) (I.ok.mod.nolimit.keeps bk) (hd.make C [] []).depth hget (fun b o z => Nat.ne_of_lt (Nat.lt_succ_of_lt (Heap.lt_size (I.kIn b o z)))) fun h3 t1 tk' k3 hx => ?_))
  refine ⟨rfl, hp.objs.size + 1, _, _, ⟨hp, g, dr, tk, os⟩, H, .ref C, none, rfl, I, fun b o z => k3 b o (Nat.ne_of_lt (Nat.lt_succ_of_lt (Heap.lt_size z))) (kk b o z), Heap.get?_none_of_le (Nat.le_succ _), hx, ⟨rfl, rfl⟩, rfl, rfl, hn, rfl, I.bare, raises_own T.exC T.tyC, h⟩
end
end DL

/-! raise, try -/
namespace DL
open PySem PySem.Spec PyProof.Rows L2
/-- what the written part says of an own exception class x, its field f -/
structure ExK1 (P : Program) (w : World) (K : PySem.W.Frag) (mg : Str → Option Value) (x f : Str) : Prop where
  ex : ∃ C fI, mg x = some (.ref C) ∧ OexC K C ∧ PySem.W.findIn K (.ref C) "__init__" = some (some (.ref fI)) ∧ PySem.W.typeIn K (.ref fI) = some (.type "function") ∧ Ini1 P w K C fI f ∧ mg "super" = none
structure ExK0 (P : Program) (w : World) (K : PySem.W.Frag) (mg : Str → Option Value) (x : Str) : Prop where
  ex : ∃ C fI, mg x = some (.ref C) ∧ OexC K C ∧ PySem.W.findIn K (.ref C) "__init__" = some (some (.ref fI)) ∧ PySem.W.typeIn K (.ref fI) = some (.type "function") ∧ Ini0 P w K C fI ∧ mg "super" = none
def sRs1 (x f : Str) (w : WE) : WS := fun Z D ρ => w Z ρ fun n ρ1 => asD n fun d => Z ⟨x, [(f, d)]⟩ ρ1
def sRs0 (x : Str) : WS := fun Z D ρ => Z ⟨x, []⟩ ρ
section
variable {X : Cx} {E : EX} {k : Nat} {x f : Str} {e : Expr} {w : WE} {p pos pos' : Pos}
theorem s_rs1 (B : Bd X k E) (hk : 2 ≤ k) (T : ExK1 X.prog X.w X.K X.mg x f) (hg : Gl X x) (he : PE X e (rd X.K X.mg E w)) (hs : starEach [e] X.env = (false, eval e X.env) :: starEach [] X.env := by rfl) (hpl : (backTo pos (starEach [] X.env)).any (·.1) = false := by rfl) (hdb : (x == ("__debug__" : Str)) = false := by decide) :
    PS X (.Raise (some (.Call (.Name x p) [e] [] pos)) none pos') (rs X.K X.mg E (sRs1 x f w)) := by
  obtain ⟨C, fI, hm, o, h1, h2, h3, h4⟩ := T.ex
  refine ps_imp (ps_raise B.calm B.tk (pmk_ini1 o h1 h2 h3 h4 (B.room.mono hk) hg hm (a_cons (x_d he) a_nil hs) hdb hs hpl)) fun D σ H h => ?_
  obtain ⟨ρ, F, fps, Z, DD, st, sc, hw⟩ := rs_open h
  refine ⟨ρ, F, fps, Z, fun as ρ1 => ∃ d, as = [.d d] ∧ Z ⟨x, [(f, d)]⟩ ρ1, st, ?_, sc.z, fun as vs ρ1 F1 H1 fps1 g r q => ?_⟩
  · have hw' : w Z ρ fun n ρ1 => asD n fun d => Z ⟨x, [(f, d)]⟩ ρ1 := hw
    show w Z ρ fun n ρ1 => asD n fun d => ∃ d', [Ar.d d] = [.d d'] ∧ Z ⟨x, [(f, d')]⟩ ρ1
    refine cast ?_ hw'
    refine congrArg (w Z ρ) (funext fun n => funext fun ρ1 => congrArg (asD n) (funext fun d => ?_))
    exact propext ⟨fun h => ⟨d, rfl, h⟩, fun ⟨d', e, h⟩ => by cases e; exact h⟩
  · obtain ⟨d, rfl, q⟩ := q
    cases r with
    | cons r rr =>
      cases rr
      cases r with
      | d dq =>
        rename_i v0
        refine ⟨v0, rfl, fun dx hdx => ?_⟩
        have ga := g.st.alloc (o := HO.xd [(f, v0)]) hdx
        exact sc.z ⟨x, [(f, d)]⟩ _ _ _ _ _ _ _ (g.trans ga) ⟨⟨C, hm, rfl⟩, .inr ⟨dx, [(f, v0)], rfl, upd_same, rfl, .cons (dq.mono ga.tr.grow) .nil⟩⟩ q
theorem s_rs0 (B : Bd X k E) (hk : 2 ≤ k) (T : ExK0 X.prog X.w X.K X.mg x) (hg : Gl X x) (hdb : (x == ("__debug__" : Str)) = false := by decide) :
    PS X (.Raise (some (.Call (.Name x p) [] [] pos)) none pos') (rs X.K X.mg E (sRs0 x)) := by
  obtain ⟨C, fI, hm, o, h1, h2, h3, h4⟩ := T.ex
  refine ps_imp (ps_raise B.calm B.tk (pmk_ini0 o h1 h2 h3 h4 (B.room.mono hk) hg hm hdb)) fun D σ H h => ?_
  obtain ⟨ρ, F, fps, Z, DD, st, sc, hw⟩ := rs_open h
  exact sc.z ⟨x, []⟩ _ _ _ _ _ _ _ (.refl st) ⟨⟨C, hm, rfl⟩, .inl ⟨rfl, rfl⟩⟩ hw
end
/-! ### try -/
def retD (D : DE) : DE := ⟨fun _ => False, D.rt, fun _ => False, fun _ => False⟩
/-- the classes that may come, and which of them the clause names -/
def ExTab (K : PySem.W.Frag) (mg : Str → Option Value) (c : Str) (tab : List (Str × Bool)) : Prop := ∃ C, mg c = some (.ref C) ∧ ∀ x b Cx, tab.lookup x = some b → mg x = some (.ref Cx) → PySem.W.exmOne K (.ref Cx) (.ref C) = some b
def sTryA (tab : List (Str × Bool)) (i : Nat) (wb : WS) (h : Addr → Value → Option Addr → WS) : WS := fun Z D ρ => wb (fun x ρ1 => match tab.lookup x.cls with
  | some true => notP ρ1 i ∧ ∀ a cls d, h a cls d Z0 (retD D) (ρ1.set i (.v (.exc a x cls d)))
  | some false => Z x ρ1
  | none => False) D ρ
def sTryO (tab : List (Str × Bool)) (wb : WS) (h : WS) : WS := fun Z D ρ => wb (fun x ρ1 => match tab.lookup x.cls with
  | some true => h Z0 (retD D) ρ1
  | some false => Z x ρ1
  | none => False) D ρ
theorem Bd.tr {X : Cx} {k : Nat} {E : EX} (B : Bd X k E) {pn : List (Addr × Obj)} {xe : Value → Shared → Prop} {W : L2.WX} (tk : Takes (X.tr pn xe) W) (own : PassesOwn (model X.prog X.w) X.A X.env xe) : Bd (X.tr pn xe) k (fun σ cls d H => W cls d σ H) :=
  ⟨B.room, B.gd, B.nd, B.calm, fun σ => passAt tk σ, own, tk⟩
section
variable {X : Cx} {E : EX} {k : Nat} {c n : Str} {i : Nat} {body suite : List Stmt} {b₀ : Stmt} {np pos pos' : Pos} {wb : WS} {tab : List (Str × Bool)}
theorem Got.exc {K : PySem.W.Frag} {mg : Str → Option Value} {ρ : En} {σ : Sg} {F H : Hp} {fps : Nat → Addr → Prop} {a : Addr} {x : Xc} {cls : Value} {d : Option Addr} (s : Sta K F H ρ σ fps) (r : RelX K mg F x cls d) : Got K ρ σ F H fps (.exc a x cls d) (.ref a) ρ σ F H fps Nil :=
  have g := Got.here (d := .none) s .non
  ⟨g.tr, g.wf, g.rs, g.pk, ⟨rfl, rfl, r.2⟩, g.ap⟩
theorem s_tryA {h : Addr → Value → Option Addr → WS} (B : Bd X k E) (T : ExTab X.K X.mg c tab) (hgl : Gl X c) (hs : X.stack = X.env :: X.outer) (hf : X.env.frame = some X.env.locals) (hi : X.N[i]? = some n) (hln : X.env.kindOf n = some .local)
    (hb : ∀ {pn : List (Addr × Obj)} {xe : Value → Shared → Prop} {E' : EX}, Bd (X.tr pn xe) k E' → PSs (X.tr pn xe) body (rs X.K X.mg E' wb))
    (hsu : ∀ (a : Addr) (oe : Obj) (cls : Value) (d : Option Addr) (pn : List (Addr × Obj)), L2.Zc cls d oe → (∃ vs, oe.data = .fields vs) → (∃ c', X.mg c' = some cls ∧ tab.lookup c' = some true) → PSs (X.suite a ((a, oe) :: pn)) (b₀ :: suite) (rs X.K X.mg EF (h a cls d)))
    (hdb : (c == ("__debug__" : Str)) = false := by decide) :
    PS X (.Try body [.ExceptHandler (some (.Name c np)) (some n) (b₀ :: suite) pos'] [] [] pos) (rs X.K X.mg E (sTryA tab i wb h)) := by
  obtain ⟨C, hC, ht⟩ := T
  refine ps_imp (ps_try_as (i := i) (tb := fun W => rs X.K X.mg (fun σ cls d H => W cls d σ H) wb) (ts := fun a cls d D σ H => (∃ c', X.mg c' = some cls ∧ tab.lookup c' = some true) ∧ rs X.K X.mg EF (h a cls d) D σ H) hs hf B.nd hi hln ⟨hgl, hdb, .inl hC⟩ B.tk (fun W pn xe tk own => hb (B.tr tk own)) fun a oe cls d pn hz hd => ⟨fun pins s σ H D I q => (hsu a oe cls d pn hz hd q.1).run pins s σ H D I q.2⟩) fun D σ H hh => ?_
  obtain ⟨ρ, F, fps, Z, DD, st, sc, hw⟩ := rs_open hh
  refine ⟨ρ, F, fps, _, DD, st, hw, fun x ρ' σ' F' H' fps' cls d g r q => ?_, sc.s, sc.r⟩
  obtain ⟨⟨Cx, hx, rfl⟩, rf⟩ := r
  dsimp only at q
  cases e : tab.lookup x.cls with
  | none => rw [e] at q; exact q.elim
  | some b =>
    rw [e] at q
    refine ⟨b, ht _ _ _ e hx, fun eb a na => ?_, fun eb => ?_⟩
    · subst eb
      obtain ⟨np, q⟩ := q
      have ge := Got.exc (mg := X.mg) (a := a) g.st ⟨⟨Cx, hx, rfl⟩, rf⟩
      have gs := ge.store np
      have gg := g.trans gs
      refine ⟨⟨x.cls, hx, e⟩, _, _, _, Z0, retD DD, gs.st, q a (.ref Cx) d, ZC0, fun ρ2 σ2 F2 H2 fps2 g2 => ⟨fun z => z.elim, fun z => z.elim, fun z => z.elim⟩, fun nn v ρ2 σ2 F2 H2 fps2 fv g2 z => sc.r _ _ _ _ _ _ _ _ (g2.after gg) z⟩
    · subst eb
      exact sc.z x _ _ _ _ _ _ _ g ⟨⟨Cx, hx, rfl⟩, rf⟩ q
theorem s_tryO {h : WS} (B : Bd X k E) (T : ExTab X.K X.mg c tab) (hgl : Gl X c) (hs : X.stack = X.env :: X.outer) (hf : X.env.frame = some X.env.locals)
    (hb : ∀ {pn : List (Addr × Obj)} {xe : Value → Shared → Prop} {E' : EX}, Bd (X.tr pn xe) k E' → PSs (X.tr pn xe) body (rs X.K X.mg E' wb))
    (hsu : ∀ (a : Addr) (oe : Obj) (cls : Value) (d : Option Addr) (pn : List (Addr × Obj)), L2.Zc cls d oe → (∃ vs, oe.data = .fields vs) → (∃ c', X.mg c' = some cls ∧ tab.lookup c' = some true) → PSs (X.suite a ((a, oe) :: pn)) (b₀ :: suite) (rs X.K X.mg EF h))
    (hdb : (c == ("__debug__" : Str)) = false := by decide) :
    PS X (.Try body [.ExceptHandler (some (.Name c np)) none (b₀ :: suite) pos'] [] [] pos) (rs X.K X.mg E (sTryO tab wb h)) := by
  obtain ⟨C, hC, ht⟩ := T
  refine ps_imp (ps_try_only (tb := fun W => rs X.K X.mg (fun σ cls d H => W cls d σ H) wb) (ts := fun a cls d D σ H => (∃ c', X.mg c' = some cls ∧ tab.lookup c' = some true) ∧ rs X.K X.mg EF h D σ H) hs hf ⟨hgl, hdb, .inl hC⟩ B.tk (fun W pn xe tk own => hb (B.tr tk own)) fun a oe cls d pn hz hd => ⟨fun pins s σ H D I q => (hsu a oe cls d pn hz hd q.1).run pins s σ H D I q.2⟩) fun D σ H hh => ?_
  obtain ⟨ρ, F, fps, Z, DD, st, sc, hw⟩ := rs_open hh
  refine ⟨ρ, F, fps, _, DD, st, hw, fun x ρ' σ' F' H' fps' cls d g r q => ?_, sc.s, sc.r⟩
  obtain ⟨⟨Cx, hx, rfl⟩, rf⟩ := r
  dsimp only at q
  cases e : tab.lookup x.cls with
  | none => rw [e] at q; exact q.elim
  | some b =>
    rw [e] at q
    refine ⟨b, ht _ _ _ e hx, fun eb a na => ?_, fun eb => ?_⟩
    · subst eb
      exact ⟨⟨x.cls, hx, e⟩, _, _, _, Z0, retD DD, g.st, q, ZC0, fun ρ2 σ2 F2 H2 fps2 g2 => ⟨fun z => z.elim, fun z => z.elim, fun z => z.elim⟩, fun nn v ρ2 σ2 F2 H2 fps2 fv g2 z => sc.r _ _ _ _ _ _ _ _ (g2.after g) z⟩
    · subst eb
      exact sc.z x _ _ _ _ _ _ _ g ⟨⟨Cx, hx, rfl⟩, rf⟩ q
end
/-! the caught exception's field -/
def wXf (i : Nat) (f : Str) (a : Addr) (cls : Value) (d : Option Addr) : WE := fun _ ρ Q => match ρ[i]? with
  | some (.v (.exc a' x cls' d')) => a' = a ∧ cls' = cls ∧ d' = d ∧ x.fs ≠ [] ∧ (match x.fs.lookup f with
    | some v => Q (.dat v) ρ
    | none => False)
  | _ => False
theorem lookup_rel {K : PySem.W.Frag} {F : Hp} {f : Str} : ∀ {fs : List (Str × V)} {ds : List (Str × PyData)} {d : PyData}, fs.map (·.1) = ds.map (·.1) → DqAll K F (fs.map (·.2)) (ds.map (·.2)) → ds.lookup f = some d → ∃ v, fs.lookup f = some v ∧ Dq K F v d
  | [], [], _, _, _, e => by cases e
  | [], _ :: _, _, h, _, _ => by cases h
  | _ :: _, [], _, h, _, _ => by cases h
  | (a, v) :: fs, (b, x) :: ds, d, h, q, e => by
    rw [List.map_cons, List.map_cons] at h
    injection h with h1 h2
    have h1 : a = b := h1
    subst h1
    cases q with
    | cons q qs =>
      rw [List.lookup_cons] at e ⊢
      cases z : f == a with
      | true => rw [z] at e; cases e; exact ⟨v, rfl, q⟩
      | false => rw [z] at e; exact lookup_rel h2 qs e
section
variable {X : Cx} {i : Nat} {n f : Str} {a : Addr} {oe : Obj} {cls : Value} {d : Option Addr} {pn : List (Addr × Obj)} {p pos : Pos}
theorem d_xf {x c : Str} (T : ∃ C, X.mg c = some (.ref C) ∧ XfC X.K C ∧ PySem.W.findIn X.K (.ref C) f = some none) {tab : List (Str × Bool)} (hcls : ∃ c', X.mg c' = some cls ∧ tab.lookup c' = some true) (ht : ∀ c', tab.lookup c' = some true → c' = c) (hz : L2.Zc cls d oe) (hf : ∃ vs, oe.data = .fields vs) (he : PE (X.suite a ((a, oe) :: pn)) (.Name x p) (tVar i))
    (hb : attributeBase (.Name x p) f X.env (eval (.Name x p) X.env) = eval (.Name x p) X.env := by rfl) :
    PE (X.suite a ((a, oe) :: pn)) (.Attribute (.Name x p) f pos) (rd X.K X.mg EF (wXf i f a cls d)) := by
  obtain ⟨C, hC, T1, T2⟩ := T
  obtain ⟨c', hC', hl⟩ := hcls
  rw [ht c' hl, hC] at hC'
  cases hC'
  refine pe_imp (pe_xf T1 T2 hz hf he hb) fun σ H Q ⟨ρ, F, fps, Z, Qd, st, hw, zc, k⟩ => ?_
  unfold wXf at hw
  cases e : ρ[i]? with
  | none => rw [e] at hw; exact hw.elim
  | some sl =>
    rw [e] at hw
    cases sl with
    | e => exact hw.elim
    | p => exact hw.elim
    | v nn =>
      cases nn with
      | exc a' x' cls' d' =>
        obtain ⟨rfl, rfl, rfl, ne, hw⟩ := hw
        obtain ⟨v, hv, _, rfl, fl⟩ := st.rs.rel i _ (.inl e)
        rcases fl with fl | ⟨dx, fs, rfl, e1, e2, q⟩
        · exact absurd fl.1 ne
        · cases el : x'.fs.lookup f with
          | none => rw [el] at hw; exact hw.elim
          | some dd =>
            rw [el] at hw
            obtain ⟨v, e3, dq⟩ := lookup_rel e2 q el
            exact ⟨.ref a', hv, rfl, rfl, dx, fs, v, rfl, st.wf.sub _ _ e1, e3, k _ _ _ _ _ _ _ (.here st dq) hw⟩
      | _ => exact hw.elim
end
end DL

/-! TAB[n], xs.index(y), zip of three, stores into dicts, {} -/
namespace DL
open PySem PySem.Spec PyProof.Rows L2
/-! ### TAB[n] -/
def wIxG (tab : List (Int × Int)) (w : WX) : WE := fun Z ρ Q => w Z ρ fun a ρ1 => lkD ρ1 a fun y => match y with
  | .int i => (match tab.lookup i with
    | some j => Q (.dat (.int j)) ρ1
    | none => False)
  | _ => False
section
variable {X : Cx} {E : EX} {e o : Expr} {w wo wa : WX} {p pos apos cpos : Pos} {x : Str} {d : Addr} {tab : List (Int × Int)}
theorem ix_tab (T : KTab X.K d tab) : IxR X (fun x y H Q => ∃ i j : Int, x = .ref d ∧ y = .int i ∧ tab.lookup i = some j ∧ Q (.int j) H) := by
  intro value slice pins s σ H x y v u Q I rx ry h hs
  obtain ⟨i, j, rfl, rfl, e, q⟩ := h
  obtain rfl : v = Value.ref d := rx
  obtain ⟨t, rfl⟩ := ry
  obtain ⟨es, hk, hm⟩ := T.map (prog := X.prog) (w := X.w) I.kIn
  have := find_at (i := i) hk
  rw [e] at this
  obtain ⟨t2, h2⟩ := this
  exact tail_any hm.typeIs PySem.F.slot_dict_getitem.lookup (wpAny_getItem_of (intKind_is X.prog X.w i t) hm h2 ⟨.int j, H, I.tok _, ⟨_, rfl⟩, q⟩) hs
theorem d_ixG (T : KTab X.K d tab) (hg : Gl X x) (hm : X.mg x = some (.ref d)) (ha : PE X e (rx X.K X.mg E w)) (hs : PlainIx e := by intro _ _; rfl) (hd : (x == ("__debug__" : Str)) = false := by decide) :
    PE X (.Subscript (.Name x p) e pos) (rd X.K X.mg E (wIxG tab w)) := pe_imp (pe_ix (ix_tab T) (pe_glob hg hm (v := .ref d) rfl hd) ha hs) fun σ H Q ⟨ρ, F, fps, Z, Qd, st, hw, zc, k⟩ => by
  refine ⟨ρ, F, fps, Z, _, st, hw, zc, fun a v ρ1 F1 H1 fps1 g1 ra q => ?_⟩
  obtain ⟨y, q, l⟩ := lk_rel g1.st.rs ra q
  cases y with
  | int i =>
    obtain rfl := l.int
    cases e2 : tab.lookup i with
    | none => simp only [e2] at q
    | some j =>
      simp only [e2] at q
      exact ⟨i, j, rfl, rfl, e2, k _ _ _ _ _ _ _ (.after g1 (.here g1.st (.int _))) q⟩
  | _ => exact q.elim
/-! ### xs.index(y) -/
mutual
theorem Dq.dp {K : PySem.W.Frag} {F H : Hp} (f : Same F H) : ∀ {v : V} {d : PyData}, Dq K F v d → d.hasDict = false → Dp K H v d
  | _, _, .non, _ => .non
  | _, _, .bl b, _ => .bl b
  | _, _, .int i, _ => .int i
  | _, _, .str x, _ => .str x
  | _, _, .lst h t, e => .lst (SqL.of (f _ _ h)) (DqAll.dp f t e)
  | _, _, .tup h t, e => .tup (TupAt.mono f h).sq (DqAll.dp f t e)
  | _, _, .dK _ _ _ _, e => by cases e
  | _, _, .dT _ _ _ _, e => by cases e
theorem DqAll.dp {K : PySem.W.Frag} {F H : Hp} (f : Same F H) : ∀ {vs : List V} {ds : List PyData}, DqAll K F vs ds → PyData.hasDictAll ds = false → DpAll K H vs ds
  | _, _, .nil, _ => .nil
  | _, _, .cons h t, e => by
    have e' : (PyData.hasDict _ || PyData.hasDictAll _) = false := e
    rw [Bool.or_eq_false_iff] at e'
    exact .cons (Dq.dp f h e'.1) (DqAll.dp f t e'.2)
end
def isLst : PyData → Prop
  | .list _ => True
  | _ => False
def idxD (x y : PyData) (k : Nat → Prop) : Prop := match x with
  | .list ds => (SeqAt.shaped (.list ds) = true ∧ SeqAt.shaped y = true ∧ (PyData.list ds).hasDict = false ∧ y.hasDict = false) ∧ ∃ j, ds.findIdx? (fun z => PyData.eqv z y) = some j ∧ k j
  | _ => False
def wIdx (wo wa : WX) : WE := fun Z ρ Q => wo Z ρ fun a ρ1 => lkD ρ1 a isLst ∧ wa Z ρ1 fun b ρ2 => lkD ρ2 a fun x => lkD ρ2 b fun y => idxD x y fun j => Q (.dat (.int (j : Int))) ρ2
theorem Lk.dp {K : PySem.W.Frag} {F H : Hp} {v : V} {d : PyData} (f : Same F H) (l : Lk K F H v d) (e : d.hasDict = false) : Dp K H v d := by
  cases l with
  | d q => exact q.dp f e
  | l h q => exact .lst (SqL.of h) (DqAll.dp f q e)
  | dK => cases e
  | dT => cases e
theorem d_idx (hu : X.A.units + 65 < cLine) (ho : PE X o (rx X.K X.mg E wo)) (ha : PE X e (rx X.K X.mg E wa))
    (hbase : attributeBase o "index" X.env (eval o X.env) = eval o X.env := by rfl)
    (hfew : ((backTo cpos (starEach [e] X.env)).all (fun x => !x.1) && (backToKw cpos (keywordEach [] X.env)).all (fun x => x.1.isSome)
      && decide (([e] : List Expr).length + ([] : List Keyword).length + (if ([] : List Keyword).isEmpty then 0 else 1) < 30)) = true := by rfl)
    (hline : (apos.endLine == cpos.line) = true := by rfl) (hs : starEach [e] X.env = (false, eval e X.env) :: starEach [] X.env := by rfl) (hplain : (backTo cpos (starEach [] X.env)).any (·.1) = false := by rfl) :
    PE X (.Call (.Attribute o "index" apos) [e] [] cpos) (rd X.K X.mg E (wIdx wo wa)) :=
  pe_imp (pe_bm PySem.F.plainAttrs_list PySem.F.slot_list_index PySem.F.type_list_index (mt_indexD hu) ho (a_cons ha a_nil hs) hbase hfew hline hs hplain) fun σ H Q ⟨ρ, F, fps, Z, Qd, st, hw, zc, k⟩ => by
    refine ⟨ρ, F, fps, Z, _, st, hw, zc, fun a v ρ1 F1 H1 fps1 g1 ra q => ?_⟩
    obtain ⟨h0, q⟩ := q
    obtain ⟨d0, i0, l0⟩ := lk_rel g1.st.rs ra h0
    cases d0 with
    | list ds0 =>
      obtain ⟨pp, xs0, rfl, e0, _⟩ := lstH g1.st.wf.sub l0
      refine ⟨.inl ⟨rfl, xs0, SqL.of e0⟩, ρ1, F1, fps1, Z, fun as ρ2 => ∃ b, as = [b] ∧ lkD ρ2 a fun x => lkD ρ2 b fun y => idxD x y fun j => Qd (.dat (.int (j : Int))) ρ2, g1.st, ?_, zc.step g1, fun as vs ρ2 F2 H2 fps2 g2 rr q2 => ?_⟩
      · have hq : wa Z ρ1 fun b ρ2 => lkD ρ2 a fun x => lkD ρ2 b fun y => idxD x y fun j => Qd (.dat (.int (j : Int))) ρ2 := q
        show wa Z ρ1 fun b ρ2 => ∃ b', [b] = [b'] ∧ lkD ρ2 a fun x => lkD ρ2 b' fun y => idxD x y fun j => Qd (.dat (.int (j : Int))) ρ2
        refine cast ?_ hq
        refine congrArg (wa Z ρ1) (funext fun b => funext fun ρ2 => ?_)
        exact propext ⟨fun h => ⟨b, rfl, h⟩, fun ⟨d', e, h⟩ => by cases e; exact h⟩
      · obtain ⟨b, rfl, q2⟩ := q2
        cases rr with
        | cons r rr =>
          cases rr
          obtain ⟨dx, h3, lx⟩ := lk_rel g2.st.rs (ra.mono g2.tr.grow) q2
          obtain ⟨dy, h4, ly⟩ := lk_rel g2.st.rs r h3
          cases dx with
          | list ds =>
            obtain ⟨⟨s1, s2, n1, n2⟩, j, hj, hk⟩ := h4
            obtain ⟨hlt, hp, hbef⟩ := List.findIdx?_eq_some_iff_getElem.mp hj
            refine ⟨pp, _, dy, ds, j, ds[j], rfl, rfl, lx.dp g2.st.wf.sub n1, ly.dp g2.st.wf.sub n2, s1, s2, List.getElem?_eq_getElem hlt, hp, fun m z' hm hz => ?_, k _ _ _ _ _ _ _ (.after (g1.trans g2) (.here g2.st (.int _))) hk⟩
            obtain ⟨hm2, e2⟩ := List.getElem?_eq_some_iff.mp hz
            have := hbef m hm
            rw [e2] at this
            simpa using this
          | _ => exact h4.elim
    | _ => exact i0.elim
end
/-! ### stores -/
/-- slot i holds an own thing -/
def ownN' (ρ : En) (i : Nat) : Prop := match ρ[i]? with
  | some (.v (.lst _)) => True
  | some (.p (.lst _)) => True
  | some (.v (.dT _)) => True
  | some (.p (.dT _)) => True
  | some (.v (.dK _)) => True
  | some (.p (.dK _)) => True
  | _ => False
section
variable {K : PySem.W.Frag} {mg : Str → Option Value} {E : EX} {σ : Sg} {F H : Hp} {fps : Nat → Addr → Prop} {Z : KX} {ρ : En} {i : Nat}
theorem Sta.putN {n n' : N} {a : Addr} {o o0 : HO} (s : Sta K F H ρ σ fps) (h : ρ[i]? = some (.v n) ∨ ρ[i]? = some (.p n)) (hv : σ[i]? = some (some (.ref a))) (hf : fps i = One a) (hH : H a = some o0) (rel : RelN K F (upd H a o) n' (.ref a) (One a)) :
    GotS K ρ σ F H fps (DL.putN ρ i n') σ F (upd H a o) fps := by
  have hi : i < ρ.length := by rcases h with h | h <;> exact (List.getElem?_eq_some_iff.mp h).1
  have oa : Ow fps a := ⟨i, by rw [hf]; rfl⟩
  have hset : ∃ c, (c = Sl.v n' ∨ c = Sl.p n') ∧ DL.putN ρ i n' = ρ.set i c ∧ ∀ n, ρ[i]? = some (.p n) → c = .p n' := by
    unfold DL.putN
    rcases h with h | h
    · rw [h]; exact ⟨_, .inl rfl, rfl, fun n e => by cases e⟩
    · rw [h]; exact ⟨_, .inr rfl, rfl, fun n e => rfl⟩
  obtain ⟨c, hc, ec, hp⟩ := hset
  rw [ec]
  refine ⟨⟨.refl _, fun b h h' => absurd h h', fun b o e no => ?_, fun b z => .inl z⟩, ⟨⟨fun b o e => ?_, s.wf.out, fun b z => ?_⟩, ⟨by rw [List.length_set]; exact s.rs.len, fun j n e => ?_, fun j h1 h2 => ?_, s.rs.dis⟩⟩, fun j n e => ⟨?_, rfl⟩⟩
  · rw [upd_ne fun z => no (by rw [z]; exact oa)]; exact e
  · have hb : b ≠ a := fun z => by subst z; rw [s.wf.out b oa] at e; cases e
    rw [upd_ne hb]; exact s.wf.sub b o e
  · by_cases hb : b = a
    · subst hb; rw [upd_same]; exact fun q => nomatch q
    · rw [upd_ne hb]; exact s.wf.dom b z
  · by_cases ej : i = j
    · subst ej
      rw [List.getElem?_set_self hi] at e
      have en : n = n' := by
        rcases hc with rfl | rfl <;> rcases e with e | e <;> cases e <;> rfl
      subst en
      exact ⟨.ref a, hv, by rw [hf]; exact rel⟩
    · rw [List.getElem?_set_ne ej] at e
      obtain ⟨v, h1, h2⟩ := s.rs.rel j n e
      exact ⟨v, h1, h2.stay (.refl _) fun b hb => upd_ne fun z => by subst z; exact s.rs.dis i j b ej (by rw [hf]; rfl) hb⟩
  · by_cases ej : i = j
    · subst ej
      rcases hc with rfl | rfl
      · exact absurd (List.getElem?_set_self hi) (h1 _)
      · exact absurd (List.getElem?_set_self hi) (h2 _)
    · refine s.rs.emp j (fun n => ?_) fun n => ?_
      · have := h1 n; rw [List.getElem?_set_ne ej] at this; exact this
      · have := h2 n; rw [List.getElem?_set_ne ej] at this; exact this
  · by_cases ej : i = j
    · subst ej; exact ⟨_, by rw [List.getElem?_set_self hi, hp n e]⟩
    · rw [List.getElem?_set_ne ej]; exact ⟨n, e⟩
end
/-- own v[k] = d -/
def stN (n : N) (y d : PyData) (k : N → Prop) : Prop := match n with
  | .lst ds => (match y with
    | .int j => (match ixN ds.length j with
      | some m => k (.lst (ds.set m d))
      | none => False)
    | _ => False)
  | .dT kvs => ∃ key, y = tP key ∧ kvs.length < 100000 ∧ k (.dT (putP kvs key d))
  | .dK kvs => ∃ key, y = kP key ∧ kvs.length < 100000 ∧ k (.dK (putP kvs key d))
  | _ => False
def gSbA (i : Nat) (wi : WX) : WG := fun d ρ k => ownN' ρ i ∧ wi Z0 ρ fun a ρ1 => lkD ρ1 a fun y => ownN ρ1 i fun n => stN n y d fun n' => k (putN ρ1 i n')
section
variable {X : Cx} {i : Nat} {x : Str} {p pos : Pos}
theorem ownN'_of {K : PySem.W.Frag} {F H : Hp} {ρ : En} {σ : Sg} {fps : Nat → Addr → Prop} {i : Nat} (r : RelS K F H ρ σ fps) (h : ownN' ρ i) : ∃ a, σ[i]? = some (some (.ref a)) := by
  unfold ownN' at h
  split at h <;> first | exact h.elim | (rename_i e; first | (obtain ⟨v, hv, a, vs, rfl, _⟩ := r.rel i _ (.inl e); exact ⟨a, hv⟩) | (obtain ⟨v, hv, a, vs, rfl, _⟩ := r.rel i _ (.inr e); exact ⟨a, hv⟩))
theorem ownN_of {K : PySem.W.Frag} {F H : Hp} {ρ : En} {σ : Sg} {fps : Nat → Addr → Prop} {i : Nat} {k : N → Prop} (r : RelS K F H ρ σ fps) (h : ownN ρ i k) : ∃ n v, (ρ[i]? = some (.v n) ∨ ρ[i]? = some (.p n)) ∧ k n ∧ σ[i]? = some (some v) ∧ RelN K F H n v (fps i) := by
  unfold ownN at h
  split at h
  · rename_i n e
    obtain ⟨v, hv, rn⟩ := r.rel i _ (.inl e)
    exact ⟨n, v, .inl e, h, hv, rn⟩
  · rename_i n e
    obtain ⟨v, hv, rn⟩ := r.rel i _ (.inr e)
    exact ⟨n, v, .inr e, h, hv, rn⟩
  · exact h.elim
theorem PSet.or {t t' : TSet} (h : PSet X t) (h' : PSet X t') : PSet X (fun o i v H Q => t o i v H Q ∨ t' o i v H Q) := fun pins s σ H o i v ov iv u Q I ro ri rv q =>
  q.elim (h pins s σ H o i v ov iv u Q I ro ri rv) (h' pins s σ H o i v ov iv u Q I ro ri rv)
theorem g_subA {is : List Nat} {ie : Expr} {wi : WX} (hu : X.A.units + 1 < cLine) (ho : PE X (.Name x p) (tVar i)) (hi : PE X ie (rx X.K X.mg E wi))
    (ha : ∀ v, assign (.Subscript (.Name x p) ie pos) X.env v = (do
      let ov ← holding [v] (eval (.Name x p) X.env)
      let iv ← holding [v, ov] (eval ie X.env)
      standAt pos
      holding [v, ov, iv] (setItem ov iv v)
      release [v, ov, iv] []) := by intro _; rfl) : PG X (.Subscript (.Name x p) ie pos) (rg X.K is (gSbA i wi)) :=
  pg_imp (pg_sub ho hi (DL.PSet.or set_list (set_dict hu)) ha) fun v σ H Q ⟨ρ, F, fps, d, Qd, st, dq, hw, k⟩ => by
    obtain ⟨h0, hw⟩ := hw
    obtain ⟨a, hv⟩ := ownN'_of st.rs h0
    refine ⟨.ref a, hv, ρ, F, fps, Z0, _, st, hw, ZC0, fun ar u ρ1 F1 H1 fps1 g1 q1 h1 => ?_⟩
    obtain ⟨y, h2, l⟩ := lk_rel g1.st.rs q1 h1
    obtain ⟨n, v', hρ, q, hv', rn⟩ := ownN_of g1.st.rs h2
    rw [hv] at hv'
    cases hv'
    have dq' : Dq X.K F1 v d := Dq.mono g1.tr.grow dq
    cases n with
    | lst ds =>
      obtain ⟨_, vs, e1, hf, hH', t⟩ := rn
      cases e1
      cases y with
      | int j =>
        obtain rfl := l.int
        have q : (match ixN ds.length j with
          | some m => Qd (putN ρ1 i (.lst (ds.set m d)))
          | none => False) := q
        split at q
        · rename_i m em
          exact .inl ⟨a, vs, j, m, rfl, rfl, hH', by rw [t.length]; exact em, k _ _ _ _ _ (g1.trans (g1.st.putN (n' := .lst (ds.set m d)) hρ hv hf hH' ⟨a, _, rfl, rfl, upd_same, t.set dq' m⟩)) ⟨rfl, fun _ _ => rfl⟩ q⟩
        · exact q.elim
      | _ => exact q.elim
    | dT kvs =>
      obtain ⟨_, ws, e1, hf, hH', kk, t⟩ := rn
      cases e1
      obtain ⟨key, rfl, hl, q⟩ := q
      obtain ⟨b, rfl, hb⟩ := tkey_lk g1.st.wf.sub l
      obtain ⟨r1, r2⟩ := put_rel key dq' kk t
      have hwl : ws.length = kvs.length := by have := congrArg List.length kk; simpa using this
      exact .inr ⟨a, _, rfl, DPut.t hH' hb (by rw [hwl]; exact Nat.lt_of_lt_of_le hl (by decide)), k _ _ _ _ _ (g1.trans (g1.st.putN (n' := .dT (putP kvs key d)) hρ hv hf hH' ⟨a, _, rfl, rfl, upd_same, r1, r2⟩)) ⟨rfl, fun _ _ => rfl⟩ q⟩
    | dK kvs =>
      obtain ⟨_, ws, e1, hf, hH', kk, t⟩ := rn
      cases e1
      obtain ⟨key, rfl, hl, q⟩ := q
      obtain rfl := key_lk l
      obtain ⟨r1, r2⟩ := put_rel key dq' kk t
      have hwl : ws.length = kvs.length := by have := congrArg List.length kk; simpa using this
      exact .inr ⟨a, _, rfl, DPut.k hH' (by rw [hwl]; exact Nat.lt_of_lt_of_le hl (by decide)), k _ _ _ _ _ (g1.trans (g1.st.putN (n' := .dK (putP kvs key d)) hρ hv hf hH' ⟨a, _, rfl, rfl, upd_same, r1, r2⟩)) ⟨rfl, fun _ _ => rfl⟩ q⟩
    | _ => exact q.elim
/-! ### {} -/
def wDn : WE := fun _ ρ Q => Q (.dK []) ρ ∨ Q (.dT []) ρ
theorem d_dctn {E : EX} : PE X (.Dict [] [] pos) (rd X.K X.mg E wDn) := ⟨fun pins s σ H Q I ⟨ρ, F, fps, Z, Qd, st, hw, zc, k⟩ => hw.elim
  (fun h => pe_dnewK.run pins s σ H Q I fun p hp => k _ _ _ _ _ _ _ (.dK0 st hp) h)
  fun h => pe_dnewT.run pins s σ H Q I fun p hp => k _ _ _ _ _ _ _ (.dT0 st hp) h⟩
end
end DL

/-! zip of three -/
namespace DL
open PySem PySem.Spec PyProof.Rows L2
def ItZ3 (K : PySem.W.Frag) (a c e : Addr) (b d f : Bool) : It :=
  ⟨fun i H => ∃ (xs ys zs : List V) (x y z : V), SqB K H a xs b ∧ SqB K H c ys d ∧ SqB K H e zs f ∧ xs[i]? = some x ∧ ys[i]? = some y ∧ zs[i]? = some z,
    fun i H v H' => ∃ T x y z, v = .ref T ∧ H T = none ∧ H' = upd H T (.tup [x, y, z]) ∧ (∀ xs, SqB K H a xs b → xs[i]? = some x) ∧ (∀ ys, SqB K H c ys d → ys[i]? = some y) ∧ ∀ zs, SqB K H e zs f → zs[i]? = some z,
    fun i H => ∃ xs ys zs : List V, SqB K H a xs b ∧ SqB K H c ys d ∧ SqB K H e zs f ∧ i = min (min xs.length ys.length) zs.length⟩
structure Zc3 (n z TI TO i1 i2 i3 a c e : Addr) : Prop where
  hz : z = n + 5
  hTI : TI = n + 3
  hTO : TO = n + 4
  h1 : i1 = n
  h2 : i2 = n + 1
  h3 : i3 = n + 2
  ha : a < n
  hc : c < n
  he : e < n
theorem turn_zip3 {P : Program} {w : World} {K : PySem.W.Frag} {elts : List Expr} {kk : Nat} {tpos : Pos} {n a c e z TI TO i1 i2 i3 : Addr} (b d f : Bool) (D : Zc3 n z TI TO i1 i2 i3 a c e) :
    Turn P w K (.Tuple elts kk tpos) (ItZ3 K a c e b d f) [z, TI, TO, i1, i2, i3] z (fun i h => IsZip h z TI TO .none ∧ IsTupOf3 h TI (.ref i1) (.ref i2) (.ref i3) ∧ (∃ x y u, IsTupOf3 h TO x y u) ∧ ItB h i1 a i b ∧ ItB h i2 c i d ∧ ItB h i3 e i f) where
  mem := by simp
  obj := fun i h st q hq => by
    obtain ⟨hz, hTI, ⟨x, y, u, hTO⟩, h1, h2, h3⟩ := st
    rcases (show q = z ∨ q = TI ∨ q = TO ∨ q = i1 ∨ q = i2 ∨ q = i3 by simpa using hq) with r | r | r | r | r | r
    · rw [r]; exact ⟨_, hz, fun v q => nomatch q⟩
    · rw [r]; exact ⟨_, hTI, fun v q => nomatch q⟩
    · rw [r]; exact ⟨_, hTO, fun v q => nomatch q⟩
    · rw [r]; exact itB_obj h1
    · rw [r]; exact itB_obj h2
    · rw [r]; exact itB_obj h3
  keep := fun i h h' st k => by
    obtain ⟨hz, hTI, ⟨x, y, u, hTO⟩, h1, h2, h3⟩ := st
    exact ⟨k z (by simp) _ hz, k TI (by simp) _ hTI, ⟨x, y, u, k TO (by simp) _ hTO⟩, itB_at h1 fun o q => k i1 (by simp) o q, itB_at h2 fun o q => k i2 (by simp) o q, itB_at h3 fun o q => k i3 (by simp) o q⟩
  item := by
    intro X hP hw hK hc i pins s σ H E I hf st hg
    subst hP hw hK
    obtain ⟨hz, hTI, hTO, h1, h2, h3⟩ := st
    obtain ⟨xs, ys, zs, x, y, u, hqx, hqy, hqz, hx, hy, hu⟩ := hg
    obtain ⟨its, rv, p, _⟩ := inv_seqB I hqx
    obtain ⟨its2, rv2, p2, _⟩ := inv_seqB I hqy
    obtain ⟨its3, rv3, p3, _⟩ := inv_seqB I hqz
    obtain ⟨u1, hu1, ru1⟩ := rv.get hx
    obtain ⟨u2, hu2, ru2⟩ := rv2.get hy
    obtain ⟨u3, hu3, ru3⟩ := rv3.get hu
    have S : ZipSep3 z TI TO i1 i2 i3 [i1, a] [i2, c] [i3, e] := by
      obtain ⟨e1, e2, e3, e4, e5, e6, l1, l2, l3⟩ := D
      subst e1 e2 e3 e4 e5 e6
      exact zip_sep3 (fp1 := [a]) (fp2 := [c]) (fp3 := [e]) (fun q hq => by rw [List.mem_singleton.mp hq]; exact l1) (fun q hq => by rw [List.mem_singleton.mp hq]; exact l2) (fun q hq => by rw [List.mem_singleton.mp hq]; exact l3)
    have n1 : a ≠ i1 := by rw [D.h1]; exact Nat.ne_of_lt D.ha
    have n2 : c ≠ i2 := by rw [D.h2]; exact Nat.ne_of_lt (Nat.lt_succ_of_lt D.hc)
    have n3 : e ≠ i3 := by rw [D.h3]; exact Nat.ne_of_lt (Nat.lt_succ_of_lt (Nat.lt_succ_of_lt D.he))
    have l1 : i < its.toArray.size := by rw [List.size_toArray]; exact (List.getElem?_eq_some_iff.mp hu1).1
    have l2 : i < its2.toArray.size := by rw [List.size_toArray]; exact (List.getElem?_eq_some_iff.mp hu2).1
    have l3 : i < its3.toArray.size := by rw [List.size_toArray]; exact (List.getElem?_eq_some_iff.mp hu3).1
    have W := GoesN.zip3 (prog := X.prog) (w := X.w) (A := X.A) (elts := elts) (x1 := kk) (pos := tpos) S (drawsB (prog := X.prog) (w := X.w) (A := X.A.in1) (I.ok.hd hc) i1 a n1 its.toArray b) (drawsB (prog := X.prog) (w := X.w) (A := X.A.in1) (I.ok.hd hc) i2 c n2 its2.toArray d) (drawsB (prog := X.prog) (w := X.w) (A := X.A.in1) (I.ok.hd hc) i3 e n3 its3.toArray f)
    refine W.goes i s _ _ (Nat.lt_min.mpr ⟨Nat.lt_min.mpr ⟨l1, l2⟩, l3⟩) ⟨hz, hTI, hTO, ⟨h1, p⟩, ⟨h2, p2⟩, h3, p3⟩ fun v h' tk hY st' hk htk => ?_
    obtain ⟨T, v1, v2, v3, rfl, hT, hy1, hy2, hy3, hI⟩ := hY
    obtain ⟨hz', hTI', hTO', ⟨h1', _⟩, ⟨h2', _⟩, h3', _⟩ := st'
    obtain rfl := getU hu1 hy1
    obtain rfl := getU hu2 hy2
    obtain rfl := getU hu3 hy3
    have new : ObjOk X.prog X.w (upd H T (.tup [x, y, u])) h' T (.tup [x, y, u]) := ⟨by show 3 ≤ sizeLine; decide, [v1, v2, v3], .cons ru1 (.cons ru2 (.cons ru3 .nil)), hI⟩
    have sub : ∀ q, q ∈ [z, TO, i1, i2, i3] → q ∈ [z, TI, TO, i1, i2, i3] := fun q hq => by
      rcases (show q = z ∨ q = TO ∨ q = i1 ∨ q = i2 ∨ q = i3 by simpa using hq) with e | e | e | e | e <;> simp [e]
    have I1 : Inv X pins σ (upd H T (.tup [x, y, u])) { s with heap := h', toks := tk } := I.turnedNew (ch := [z, TO, i1, i2, i3]) hk (fun q hq => hf q (sub q hq)) hT new
    refine ⟨.ref T, _, I1, rfl, ⟨T, x, y, u, rfl, I.hok.fresh hT, rfl, fun l hl => by rw [inv_seqB_inj I hl hqx]; exact hx, fun l hl => by rw [inv_seqB_inj I hl hqy]; exact hy, fun l hl => by rw [inv_seqB_inj I hl hqz]; exact hu⟩, ⟨hz', hTI', hTO', h1', h2', h3'⟩, fun q hq => ?_⟩
    have hq' : q < s.heap.objs.size := by
      rcases (show q = z ∨ q = TI ∨ q = TO ∨ q = i1 ∨ q = i2 ∨ q = i3 by simpa using hq) with e | e | e | e | e | e
      · rw [e]; exact Heap.lt_size hz
      · rw [e]; exact Heap.lt_size hTI
      · obtain ⟨_, _, _, r⟩ := hTO; rw [e]; exact Heap.lt_size r
      · obtain ⟨o, r, _⟩ := itB_obj h1; rw [e]; exact Heap.lt_size r
      · obtain ⟨o, r, _⟩ := itB_obj h2; rw [e]; exact Heap.lt_size r
      · obtain ⟨o, r, _⟩ := itB_obj h3; rw [e]; exact Heap.lt_size r
    rw [upd_ne (Nat.ne_of_lt (Nat.lt_of_lt_of_le hq' hT))]
    exact (hf q hq).1
  done := by
    intro X hP hw hK hc i pins s σ H E I hf st hg
    subst hP hw hK
    obtain ⟨hz, hTI, hTO, h1, h2, h3⟩ := st
    obtain ⟨xs, ys, zs, hqx, hqy, hqz, hi⟩ := hg
    obtain ⟨its, rv, p, _⟩ := inv_seqB I hqx
    obtain ⟨its2, rv2, p2, _⟩ := inv_seqB I hqy
    obtain ⟨its3, rv3, p3, _⟩ := inv_seqB I hqz
    have S : ZipSep3 z TI TO i1 i2 i3 [i1, a] [i2, c] [i3, e] := by
      obtain ⟨e1, e2, e3, e4, e5, e6, l1, l2, l3⟩ := D
      subst e1 e2 e3 e4 e5 e6
      exact zip_sep3 (fp1 := [a]) (fp2 := [c]) (fp3 := [e]) (fun q hq => by rw [List.mem_singleton.mp hq]; exact l1) (fun q hq => by rw [List.mem_singleton.mp hq]; exact l2) (fun q hq => by rw [List.mem_singleton.mp hq]; exact l3)
    have n1 : a ≠ i1 := by rw [D.h1]; exact Nat.ne_of_lt D.ha
    have n2 : c ≠ i2 := by rw [D.h2]; exact Nat.ne_of_lt (Nat.lt_succ_of_lt D.hc)
    have n3 : e ≠ i3 := by rw [D.h3]; exact Nat.ne_of_lt (Nat.lt_succ_of_lt (Nat.lt_succ_of_lt D.he))
    have W := GoesN.zip3 (prog := X.prog) (w := X.w) (A := X.A) (elts := elts) (x1 := kk) (pos := tpos) S (drawsB (prog := X.prog) (w := X.w) (A := X.A.in1) (I.ok.hd hc) i1 a n1 its.toArray b) (drawsB (prog := X.prog) (w := X.w) (A := X.A.in1) (I.ok.hd hc) i2 c n2 its2.toArray d) (drawsB (prog := X.prog) (w := X.w) (A := X.A.in1) (I.ok.hd hc) i3 e n3 its3.toArray f)
    have e : i = min (min its.toArray.size its2.toArray.size) its3.toArray.size := by rw [List.size_toArray, List.size_toArray, List.size_toArray, ← rv.length, ← rv2.length, ← rv3.length]; exact hi
    subst e
    refine wpAny_mono (W.stops s (fun s1 => Inv X pins σ H s1) E ⟨hz, hTI, hTO, ⟨h1, p⟩, ⟨h2, p2⟩, h3, p3⟩ fun h' tk hk htk => ?_) (fun r s1 h => h) fun _ _ h => h
    refine I.turnedL (ch := [z, TI, TO, i1, i2, i3]) (fun q o hq e => hk q o (fun m => hq ?_) e) hf
    rcases (show q = z ∨ q = TO ∨ q = i1 ∨ q = i2 ∨ q = i3 by simpa using m) with e | e | e | e | e <;> simp [e]
  self := fun A i s Q E st h => wpAny_pyIter_zip st.1 h
def iZipB3 (K : PySem.W.Frag) (ta : TA) : TI := fun σ H R => ta σ H fun vs H1 => ∃ a c e xs ys zs b d f, vs = [.ref a, .ref c, .ref e] ∧ SqB K H1 a xs b ∧ SqB K H1 c ys d ∧ SqB K H1 e zs f ∧ R (ItZ3 K a c e b d f) H1
theorem pi_zip3 {X : Cx} {e1 e2 e3 : Expr} {ta : TA} {p pos tpos : Pos} {elts : List Expr} {kk : Nat} (hg : Gl X "zip") (hm : X.mg "zip" = none) (ha : PA X [e1, e2, e3] ta)
    (hs : starEach [e1, e2, e3] X.env = (false, eval e1 X.env) :: starEach [e2, e3] X.env := by rfl) (hpl : (backTo pos (starEach [e2, e3] X.env)).any (·.1) = false := by rfl) :
    PI X (.Tuple elts kk tpos) (.Call (.Name "zip" p) [e1, e2, e3] [] pos) (iZipB3 X.K ta) := by
  refine ⟨fun pins s σ H R I h => ?_⟩
  refine Call_ (ld_blt I hg hm PyProof.Rows.boot_zip (PyProof.Rows.callWith_type1 (thn (ha.run pos pins s σ H _ I h) fun us s1 ⟨vs, H1, I1, r1, q1⟩ => ?_) hs hpl))
  obtain ⟨a, c, e, xs, ys, zs, b, d, f, ex, hqx, hqy, hqz, q⟩ := q1
  subst ex
  cases r1 with
  | cons r rr =>
    cases rr with
    | cons r' rr =>
      cases rr with
      | cons r'' rr =>
        cases rr
        cases r
        cases r'
        cases r''
        obtain ⟨its, rv, p1, _⟩ := inv_seqB I1 hqx
        obtain ⟨its2, rv2, p2, _⟩ := inv_seqB I1 hqy
        obtain ⟨its3, rv3, p3, _⟩ := inv_seqB I1 hqz
        refine zip_begins3 (beginsB a its.toArray b) (beginsB c its2.toArray d) (beginsB e its3.toArray f) p1 p2 p3 fun h' hz hTI hTO h1 h2 h3 hsz hk => wpAny_pyIter_zip hz ?_
        have I2 : Inv X pins σ H1 { s1 with heap := h' } := I1.kept (t' := s1.toks) hk
        refine ⟨s1.heap.objs.size + 5, [s1.heap.objs.size + 5, s1.heap.objs.size + 3, s1.heap.objs.size + 4, s1.heap.objs.size, s1.heap.objs.size + 1, s1.heap.objs.size + 2], _, _, H1, rfl, I2, turn_zip3 b d f ⟨rfl, rfl, rfl, rfl, rfl, rfl, isB_lt p1, isB_lt p2, isB_lt p3⟩, ⟨hz, hTI, ⟨_, _, _, hTO⟩, itB_start h1, itB_start h2, itB_start h3⟩, fun q hq => ?_, q⟩
        have hle : s1.heap.objs.size ≤ q := by
          rcases (show q = s1.heap.objs.size + 5 ∨ q = s1.heap.objs.size + 3 ∨ q = s1.heap.objs.size + 4 ∨ q = s1.heap.objs.size ∨ q = s1.heap.objs.size + 1 ∨ q = s1.heap.objs.size + 2 by simpa using hq) with e | e | e | e | e | e
          · rw [e]; exact Nat.le_add_right _ _
          · rw [e]; exact Nat.le_add_right _ _
          · rw [e]; exact Nat.le_add_right _ _
          · rw [e]; exact Nat.le_refl _
          · rw [e]; exact Nat.le_add_right _ _
          · rw [e]; exact Nat.le_add_right _ _
        exact I1.fpOk hle (I1.hok.fresh hle)
def zipD3 (ds es fs : List PyData) : List PyData := (List.zip ds (List.zip es fs)).map fun p => .tuple [p.1, p.2.1, p.2.2]
theorem strm_z3 {K : PySem.W.Frag} {F : Hp} {a c e : Addr} {xs ys zs : List V} {ds es fs : List PyData} {b d f : Bool} (h : SqB K F a xs b) (h2 : SqB K F c ys d) (h3 : SqB K F e zs f) (q : DqAll K F xs ds) (q2 : DqAll K F ys es) (q3 : DqAll K F zs fs) : Strm true K F (ItZ3 K a c e b d f) (zipD3 ds es fs) where
  stop := fun s1 s2 => ⟨xs, ys, zs, Same.sqB s2 (Same.sqB s1 h), Same.sqB s2 (Same.sqB s1 h2), Same.sqB s2 (Same.sqB s1 h3), by rw [q.length, q2.length, q3.length]; simp [zipD3]⟩
  go := fun {i F' H} hi s1 s2 => by
    have hi' : i < ds.length ∧ i < es.length ∧ i < fs.length := by simp only [zipD3, List.length_map, List.length_zip] at hi; omega
    exact ⟨xs, ys, zs, xs[i]'(by rw [q.length]; exact hi'.1), ys[i]'(by rw [q2.length]; exact hi'.2.1), zs[i]'(by rw [q3.length]; exact hi'.2.2), Same.sqB s2 (Same.sqB s1 h), Same.sqB s2 (Same.sqB s1 h2), Same.sqB s2 (Same.sqB s1 h3), List.getElem?_eq_getElem _, List.getElem?_eq_getElem _, List.getElem?_eq_getElem _⟩
  yld := fun {i d F' H x H'} hd s1 s2 y => by
    obtain ⟨T, x0, y0, z0, rfl, hT, rfl, y1, y2, y3⟩ := y
    have e1 := y1 xs (Same.sqB s2 (Same.sqB s1 h))
    have e2 := y2 ys (Same.sqB s2 (Same.sqB s1 h2))
    have e3 := y3 zs (Same.sqB s2 (Same.sqB s1 h3))
    obtain ⟨g1, he1, r1⟩ := q.get e1
    obtain ⟨g2, he2, r2⟩ := q2.get e2
    obtain ⟨g3, he3, r3⟩ := q3.get e3
    have ed : d = .tuple [g1, g2, g3] := by
      have hz : (List.zip ds (List.zip es fs))[i]? = some (g1, g2, g3) := by
        rw [List.getElem?_zip_eq_some]
        exact ⟨he1, List.getElem?_zip_eq_some.mpr ⟨he2, he3⟩⟩
      rw [zipD3, List.getElem?_map, hz] at hd
      exact (Option.some.inj hd).symm
    subst ed
    exact strm_new s2 hT (.cons (r1.mono s1) (.cons (r2.mono s1) (.cons (r3.mono s1) .nil)))
def iZip3 (ws : WA) : WI := fun Z ρ Q => ws Z ρ fun as ρ1 => match as with
  | [.d x, .d y, .d z] => seqD x fun ds => seqD y fun es => seqD z fun fs => Q (zipD3 ds es fs) ρ1
  | _ => False
section
variable {X : Cx} {E : EX} {e e2 e3 : Expr} {ws : WA} {p pos tpos : Pos} {elts : List Expr} {kk : Nat}
theorem i_zip3 (hg : Gl X "zip") (hm : X.mg "zip" = none) (ha : PA X [e, e2, e3] (ra X.K X.mg E ws))
    (hs : starEach [e, e2, e3] X.env = (false, eval e X.env) :: starEach [e2, e3] X.env := by rfl) (hpl : (backTo pos (starEach [e2, e3] X.env)).any (·.1) = false := by rfl) :
    PI X (.Tuple elts kk tpos) (.Call (.Name "zip" p) [e, e2, e3] [] pos) (riB true X.K X.mg E (iZip3 ws)) :=
  pi_imp (pi_zip3 hg hm ha hs hpl) fun σ H Q ⟨ρ, F, fps, Z, Qd, st, hw, zc, k⟩ => ⟨ρ, F, fps, Z, _, st, hw, zc, fun as vs ρ1 F1 H1 fps1 g r q => by
    cases r with
    | nil => exact q.elim
    | cons r rr =>
      cases rr with
      | nil => cases r <;> exact q.elim
      | cons r' rr =>
        cases rr with
        | nil => cases r <;> cases r' <;> exact q.elim
        | cons r'' rr =>
          cases rr with
          | cons => cases r <;> cases r' <;> cases r'' <;> exact q.elim
          | nil =>
            cases r with
            | o => exact q.elim
            | d r =>
              cases r' with
              | o => exact q.elim
              | d r' =>
                cases r'' with
                | o => exact q.elim
                | d r'' =>
                  obtain ⟨ds, hd, hq⟩ := seqD_of q
                  obtain ⟨es, he, hq⟩ := seqD_of hq
                  obtain ⟨fs, hf, hq⟩ := seqD_of hq
                  obtain ⟨a, xs, b, rfl, hs, hq2⟩ := sqB_of r hd
                  obtain ⟨c, ys, d, rfl, hs2, hq3⟩ := sqB_of r' he
                  obtain ⟨u, zs, f, rfl, hs3, hq4⟩ := sqB_of r'' hf
                  exact ⟨a, c, u, xs, ys, zs, b, d, f, rfl, Same.sqB g.st.wf.sub hs, Same.sqB g.st.wf.sub hs2, Same.sqB g.st.wf.sub hs3, k _ _ _ _ _ _ g (strm_z3 hs hs2 hs3 hq2 hq3 hq4) hq⟩⟩
end
end DL

/-! the facts of exception classes, together -/
namespace DL
open PySem PySem.Spec PyProof.Rows L2
section
variable {X : Cx} {k : Nat} {E : EX} (C : Bd X k E)
include C
theorem Bd.u1 : X.A.units + 1 < cLine := by have := C.room.units; omega
theorem Bd.u4 : X.A.units + 4 < cLine := by have := C.room.units; omega
end
abbrev sfn (st : Stmt) (qual : Str) (kV doc pm ct : Value) (an : Option Addr) (cda cc : Addr) : FuncData := PySem.W.ksFn "__init__" qual (defArgs st) (defBody st) (defScope st) .none kV doc pm an (.ref cda) ct cc
structure ScI (st : Stmt) : Prop where
  hp : ∃ ar, ((defArgs st).posonlyargs ++ (defArgs st).args).head? = some ar ∧ ar.arg = ("self" : Str)
  sc1 : (defScope st).names.lookup ("super" : Str) = some .globalImplicit
  sc2 : (defScope st).names.lookup ("__class__" : Str) = some .free
  sc3 : (defScope st).names.lookup ("self" : Str) = some .local
  sc4 : (defScope st).kind = .function
  sc5 : ∀ x ∈ (defScope st).names, x.2 ≠ .cell
  sc6 : (defScope st).isCoroutine = false
  sc7 : (defScope st).isGenerator = false
/-- the text of __init__(self, f): super().__init__(f); self.f = f -/
structure IniT1 (st : Stmt) (qual f : Str) : Prop where
  sc : ScI st
  sc8 : (defScope st).names.lookup f = some .local
  hf : (f == ("self" : Str)) = false
  hdb : (f == ("__debug__" : Str)) = false
  bind : ∀ (s : Shared) (x : Addr) (u kV doc pm ct : Value) (an : Option Addr) (cda cc : Addr), BindsTo s (sfn st qual kV doc pm ct an cda cc) ⟨[.ref x, u], []⟩ [("self", .ref x), (f, u)]
  hi : ∀ (fI L cda cc : Addr), interactive (PySem.W.ksEnv qual (defScope st) L fI (.ref cda) cc) = false
  body : ∃ p0 p1 p2 p3 p4 p5 p6 p7 p8 p9, defBody st = [.Expr (.Call (.Attribute (.Call (.Name "super" p0) [] [] p1) "__init__" p2) [.Name f p5] [] p3) p4, .Assign [.Attribute (.Name "self" p6) f p7] (.Name f p8) p9] ∧
    (∀ (fI L cda cc : Addr), swapsWith (.Call (.Attribute (.Call (.Name "super" p0) [] [] p1) "__init__" p2) [.Name f p5] [] p3) none p4.line (PySem.W.ksEnv qual (defScope st) L fI (.ref cda) cc) = pure false) ∧
    (∀ (fI L cda cc : Addr), swapsWith (.Name f p8) (some (.Attribute (.Name "self" p6) f p7)) p9.line (PySem.W.ksEnv qual (defScope st) L fI (.ref cda) cc) = pure false) ∧
    (∀ (fI L cda cc : Addr), starEach [.Name f p5] (PySem.W.ksEnv qual (defScope st) L fI (.ref cda) cc) = [(false, eval (.Name f p5) (PySem.W.ksEnv qual (defScope st) L fI (.ref cda) cc))]) ∧
    (∀ (fI L cda cc : Addr), eval (.Call (.Attribute (.Call (.Name "super" p0) [] [] p1) "__init__" p2) [.Name f p5] [] p3) (PySem.W.ksEnv qual (defScope st) L fI (.ref cda) cc) = (do
      let ov ← attributeBase (.Call (.Name "super" p0) [] [] p1) "__init__" (PySem.W.ksEnv qual (defScope st) L fI (.ref cda) cc) (eval (.Call (.Name "super" p0) [] [] p1) (PySem.W.ksEnv qual (defScope st) L fI (.ref cda) cc))
      standAt p2.atName
      let (f', first) ← holding [ov] (getMethod ov "__init__" plS)
      callWith p3 f' first (backTo p3 (starEach [.Name f p5] (PySem.W.ksEnv qual (defScope st) L fI (.ref cda) cc))) []))
structure IniT0 (st : Stmt) (qual : Str) : Prop where
  sc : ScI st
  bind : ∀ (s : Shared) (x : Addr) (kV doc pm ct : Value) (an : Option Addr) (cda cc : Addr), BindsTo s (sfn st qual kV doc pm ct an cda cc) ⟨[.ref x], []⟩ [("self", .ref x)]
  hi : ∀ (fI L cda cc : Addr), interactive (PySem.W.ksEnv qual (defScope st) L fI (.ref cda) cc) = false
  body : ∃ p0 p1 p2 p3 p4, defBody st = [.Expr (.Call (.Attribute (.Call (.Name "super" p0) [] [] p1) "__init__" p2) [] [] p3) p4] ∧
    (∀ (fI L cda cc : Addr), swapsWith (.Call (.Attribute (.Call (.Name "super" p0) [] [] p1) "__init__" p2) [] [] p3) none p4.line (PySem.W.ksEnv qual (defScope st) L fI (.ref cda) cc) = pure false) ∧
    (∀ (fI L cda cc : Addr), eval (.Call (.Attribute (.Call (.Name "super" p0) [] [] p1) "__init__" p2) [] [] p3) (PySem.W.ksEnv qual (defScope st) L fI (.ref cda) cc) = (do
      let ov ← attributeBase (.Call (.Name "super" p0) [] [] p1) "__init__" (PySem.W.ksEnv qual (defScope st) L fI (.ref cda) cc) (eval (.Call (.Name "super" p0) [] [] p1) (PySem.W.ksEnv qual (defScope st) L fI (.ref cda) cc))
      standAt p2.atName
      let (f', first) ← holding [ov] (getMethod ov "__init__" plS)
      callWith p3 f' first (backTo p3 (starEach [] (PySem.W.ksEnv qual (defScope st) L fI (.ref cda) cc))) []))
/-- .. of the class itself -/
structure ClsI (K : PySem.W.Frag) (C fI : Addr) : Prop where
  meth : PySem.W.ks_superIn K C C "__init__" = some (some (.builtin "ValueError.__init__"))
  ve : PySem.W.subIn K (.ref C) (.type "ValueError") = some true
  third : PySem.W.nsIn K cStatics "thirdparty.any" = some none
  self : PySem.W.mroIn K C (.ref C) = some true
  sa : PySem.W.findIn K (.ref C) "__setattr__" = some (some (.builtin "object.__setattr__"))
  exC : PySem.W.subIn K (.ref C) (.type "BaseException") = some true
  tyC : PySem.W.typeIn K (.ref C) = some (.type "type")
  kC : PySem.W.keepIn K (.ref C) = true
  iC : PySem.W.findIn K (.ref C) "__init__" = some (some (.ref fI))
  tI : PySem.W.typeIn K (.ref fI) = some (.type "function")
section
variable {P : Program} {w : World} {K : PySem.W.Frag} {h : Heap} {mg : Str → Option Value} {x qual f : Str} {C fI cda cc : Addr} {st : Stmt} {oc kV doc pm ct : Value} {an od : Option Addr} {osl : Array (Option Value)}
  {ccl : Value} {cdd : Option Addr} {vs : Array Value} {ccs : Array (Option Value)} {file : Str} {tf : Tok} {cl : Value} {cld : Option Addr} {csl : Array (Option Value)}
  {nm q : Str} {N : Addr} {bs bm sub : List Value} {sn : List Str} {ab : Bool} {col : Option Bool} {dd : Option Addr} {k0 k1 k2 k3 k5 : Option Value}
theorem iniK_mk (hC : K.lookup C = some (excClassObj nm q C N bs bm true sn sub ab col dd k0 k1 k2 k3 k5 "ValueError.__new__")) (hbm : PySem.HandSPX.refsVE bm = true) (c : ClsI K C fI)
    (lf : K.lookup fI = some ⟨oc, od, .func (sfn st qual kV doc pm ct an cda cc), osl⟩) (hcd : PySem.W.codeIn K (.ref cda) qual = true) (lc : K.lookup cda = some ⟨ccl, cdd, .fields vs, ccs⟩) (hvs : vs[2]? = some (.str file tf)) (hfile : ((P.main.file : Str) == file) = true)
    (lcc : K.lookup cc = some ⟨cl, cld, .cell (some (.ref C)), csl⟩) (top : (P.main.scope.names.lookup ("super" : Str)).isSome = false) : IniK P K C fI st qual :=
  ⟨⟨oc, od, kV, doc, pm, an, cda, ct, cc, osl, lf, hcd, ⟨_, _, _, _, _, _, lc, hvs, hfile⟩, _, _, _, lcc⟩, ⟨_, _, _, _, _, _, _, _, _, _, _, _, _, _, _, hC, hbm⟩, c.meth, c.ve, c.third, c.self, top⟩
theorem oexC_mk (hC : K.lookup C = some (excClassObj nm q C N bs bm true sn sub ab col dd k0 k1 k2 k3 k5 "ValueError.__new__")) (hbm : PySem.HandSPX.refsVE bm = true) (c : ClsI K C fI) : OexC K C :=
  ⟨⟨_, _, _, _, _, _, _, _, _, _, _, _, _, _, _, hC, hbm⟩, c.sa, c.exC, c.tyC, c.kC⟩
theorem exK1_mk (X : K.In h) (G : h.Ns mainGlobals mg) (a : PySem.W.nsIn K mainGlobals x = some (some (.ref C))) (sup : PySem.W.nsIn K mainGlobals "super" = some none) (T : IniT1 st qual f) (hno : PySem.W.findIn K (.ref C) f = some none)
    (hC : K.lookup C = some (excClassObj nm q C N bs bm true sn sub ab col dd k0 k1 k2 k3 k5 "ValueError.__new__")) (hbm : PySem.HandSPX.refsVE bm = true) (c : ClsI K C fI)
    (lf : K.lookup fI = some ⟨oc, od, .func (sfn st qual kV doc pm ct an cda cc), osl⟩) (hcd : PySem.W.codeIn K (.ref cda) qual = true) (lc : K.lookup cda = some ⟨ccl, cdd, .fields vs, ccs⟩) (hvs : vs[2]? = some (.str file tf)) (hfile : ((P.main.file : Str) == file) = true)
    (lcc : K.lookup cc = some ⟨cl, cld, .cell (some (.ref C)), csl⟩) (top : (P.main.scope.names.lookup ("super" : Str)).isSome = false) : ExK1 P w K mg x f := by
  have I : IniK P K C fI st qual := iniK_mk hC hbm c lf hcd lc hvs hfile lcc top
  refine ⟨C, fI, PySem.W.mg_of X G a, oexC_mk hC hbm c, c.iC, c.tI, ?_, PySem.W.mg_none_of X G sup⟩
  intro A y t0 u h g d t os mg' mb R hX hg hb hs hs2 lim room he kx fin
  obtain ⟨p0, p1, p2, p3, p4, p5, p6, p7, p8, p9, b, s1, s2, s3, s4⟩ := T.body
  exact ini_run1 I hX hg hb hs hs2 lim room he T.sc.hp b T.sc.sc1 T.sc.sc2 T.sc.sc3 T.sc.sc4 T.sc.sc5 T.sc.sc6 T.sc.sc7 T.sc8 T.hf T.hdb (fun s kV doc pm ct an cda cc => T.bind s y u kV doc pm ct an cda cc) (T.hi fI) (s1 fI) (s2 fI) (s3 fI) (s4 fI) c.sa hno kx fin
theorem exK0_mk (X : K.In h) (G : h.Ns mainGlobals mg) (a : PySem.W.nsIn K mainGlobals x = some (some (.ref C))) (sup : PySem.W.nsIn K mainGlobals "super" = some none) (T : IniT0 st qual)
    (hC : K.lookup C = some (excClassObj nm q C N bs bm true sn sub ab col dd k0 k1 k2 k3 k5 "ValueError.__new__")) (hbm : PySem.HandSPX.refsVE bm = true) (c : ClsI K C fI)
    (lf : K.lookup fI = some ⟨oc, od, .func (sfn st qual kV doc pm ct an cda cc), osl⟩) (hcd : PySem.W.codeIn K (.ref cda) qual = true) (lc : K.lookup cda = some ⟨ccl, cdd, .fields vs, ccs⟩) (hvs : vs[2]? = some (.str file tf)) (hfile : ((P.main.file : Str) == file) = true)
    (lcc : K.lookup cc = some ⟨cl, cld, .cell (some (.ref C)), csl⟩) (top : (P.main.scope.names.lookup ("super" : Str)).isSome = false) : ExK0 P w K mg x := by
  have I : IniK P K C fI st qual := iniK_mk hC hbm c lf hcd lc hvs hfile lcc top
  refine ⟨C, fI, PySem.W.mg_of X G a, oexC_mk hC hbm c, c.iC, c.tI, ?_, PySem.W.mg_none_of X G sup⟩
  intro A y t0 h g d t os mg' mb R hX hg hb hs hs2 lim room he kx fin
  obtain ⟨p0, p1, p2, p3, p4, b, s1, s4⟩ := T.body
  exact ini_run0 (fd := default) (osl := default) (oc := default) (od := default) I hX hg hb hs hs2 lim room he T.sc.hp b T.sc.sc1 T.sc.sc2 T.sc.sc3 T.sc.sc4 T.sc.sc5 T.sc.sc6 T.sc.sc7 (fun s kV doc pm ct an cda cc => T.bind s y kV doc pm ct an cda cc) (T.hi fI) (s1 fI) (s4 fI) fin
/-- the table of an except clause -/
theorem exTab_mk {c : Str} {C : Addr} {tab : List (Str × Bool)} (X : K.In h) (G : h.Ns mainGlobals mg) (a : PySem.W.nsIn K mainGlobals c = some (some (.ref C)))
    (t : ∀ p ∈ tab, ∃ Cx, PySem.W.nsIn K mainGlobals p.1 = some (some (.ref Cx)) ∧ PySem.W.exmOne K (.ref Cx) (.ref C) = some p.2) : ExTab K mg c tab := by
  refine ⟨C, PySem.W.mg_of X G a, fun x b Cx hl hm => ?_⟩
  have hm2 : (x, b) ∈ tab := by
    clear t
    induction tab with
    | nil => cases hl
    | cons p r ih =>
      obtain ⟨y, d⟩ := p
      rw [List.lookup_cons] at hl
      cases e : x == y with
      | true => rw [e] at hl; cases hl; rw [beq_iff_eq.mp e]; exact List.mem_cons_self
      | false => rw [e] at hl; exact List.mem_cons_of_mem _ (ih hl)
  obtain ⟨Cy, h1, h2⟩ := t _ hm2
  have := PySem.W.mg_of X G h1
  rw [hm] at this
  cases this
  exact h2
/-- exmOne by its parts -/
theorem exm_mk {cls : Value} {C : Addr} {b : Bool} (h1 : PySem.W.subIn K (.ref C) (.type "BaseException") = some true) (hdct : PySem.W.hasDictIn K C = true) (ht : PySem.W.typeIn K (.ref C) = some (.type "type")) (h4 : PySem.W.subIn K cls (.ref C) = some b) : PySem.W.exmOne K cls (.ref C) = some b :=
  PySem.W.exm_ref h1 hdct ht h4
end
end DL

namespace DL
open PySem PySem.Spec PyProof.Rows L2
/-! ### sorted(list) -/
def sortD (ds : List PyData) : List PyData := ds.mergeSort (PySem.W.dataLe false id)
def sortOk (ds : List PyData) : Prop := PySem.W.AllAlike ds ∧ PySem.W.Sortable ds ∧ PyData.depthAll ds ≤ 50
section
variable {X : Cx}
theorem vals_map {ys : List V} {out : List Value} : PySem.W.EachIs (fun v (b : V × PyData) => RelV b.1 v) out bs → Vals (bs.map (·.1)) out := fun h => by
  induction h with
  | nil => exact .nil
  | cons h _ ih => exact .cons h ih
theorem dq_map {K : PySem.W.Frag} {F : Hp} {bs : List (V × PyData)} : (∀ b ∈ bs, Dq K F b.1 b.2) → DqAll K F (bs.map (·.1)) (bs.map (·.2)) := fun h => by
  induction bs with
  | nil => exact .nil
  | cons b bs ih => exact .cons (h b List.mem_cons_self) (ih fun x hx => h x (List.mem_cons_of_mem _ hx))
theorem dq_mem {K : PySem.W.Frag} {F : Hp} : ∀ {xs : List V} {ds : List PyData}, DqAll K F xs ds → ∀ b ∈ xs.zip ds, Dq K F b.1 b.2
  | _, _, .nil, _, hb => nomatch hb
  | _, _, .cons h t, b, hb => by
    rw [List.zip_cons_cons] at hb
    rcases List.mem_cons.mp hb with rfl | hb
    · exact h
    · exact dq_mem t b hb
theorem zip_snd {K : PySem.W.Frag} {F : Hp} : ∀ {xs : List V} {ds : List PyData}, DqAll K F xs ds → (xs.zip ds).map (·.2) = ds ∧ (xs.zip ds).length = xs.length
  | _, _, .nil => ⟨rfl, rfl⟩
  | _, _, .cons _ t => ⟨by rw [List.zip_cons_cons, List.map_cons, (zip_snd t).1], by rw [List.zip_cons_cons, List.length_cons, List.length_cons, (zip_snd t).2]⟩
theorem each_zip {K : PySem.W.Frag} {F : Hp} : ∀ {xs : List V} {ds : List PyData} {its : List Value}, DqAll K F xs ds → Vals xs its → PySem.W.EachIs (fun v (b : V × PyData) => RelV b.1 v) its (xs.zip ds)
  | _, _, _, .nil, .nil => .nil
  | _, _, _, .cons _ t, .cons h r => .cons h (each_zip t r)
theorem each_rd {K : PySem.W.Frag} {F : Hp} {h : Heap} : ∀ {xs : List V} {ds : List PyData} {its : List Value} {as : List Addr}, DqAll K F xs ds → Vals xs its → ReadsAll h its ds as → PySem.W.EachIs (fun v (b : V × PyData) => ∃ as, Reads h v b.2 as) its (xs.zip ds)
  | _, _, _, _, .nil, .nil, _ => .nil
  | _, _, _, _, .cons _ t, .cons _ r, .cons q1 q => .cons ⟨_, q1⟩ (each_rd t r q)
theorem depthAll_mem {d : PyData} : ∀ {ds : List PyData}, d ∈ ds → d.depth ≤ PyData.depthAll ds
  | x :: xs, h => by
    show d.depth ≤ max x.depth (PyData.depthAll xs)
    rcases List.mem_cons.mp h with rfl | h
    · omega
    · have := depthAll_mem h; omega
theorem collect_tup {prog : Program} {w : World} {A : Around} {E : Value → Shared → Prop} {s : Shared} {l : Addr} {vs : List Value} {Q : List Value → Shared → Prop} (hl : s.heap.IsTuple l vs.toArray)
    (h : Q vs { s with heap := (s.heap.push (seqObj "list" #[] 0)).update s.heap.objs.size (Obj.mapSeq (· ++ vs.toArray)) }) (hsz : vs.length ≤ sizeLine) :
    wpAny (model prog w) A (collect (.ref l)) Q E s := by
  obtain ⟨o, ho, hc, n, hd⟩ := id hl
  unfold collect
  refine wpAny_bind (wpAny_runValue (codeAny_builtin entry_proto_collect' ?_))
  show wpAny _ _ (do again (.builtin "list.__iadd__" ⟨[← newList [], .ref l], []⟩)) _ _ s
  refine wpAny_bind (wpAny_newList (wpAny_pure ⟨Code.quiet_builtin _ (by decide +kernel), codeAny_builtin entry_list_iadd' ?_⟩))
  show wpAny _ _ (Builtin.List.listExtendWith (.ref s.heap.objs.size) (.ref l) (.ref s.heap.objs.size)) _ _ { s with heap := s.heap.push (seqObj "list" #[] 0) }
  unfold Builtin.List.listExtendWith
  have ho' : (s.heap.push (seqObj "list" #[] 0)).get? l = some o := Heap.get?_push_of_some _ ho
  refine wpAny_bind (wpAny_typeOf (T := "tuple") ⟨o, ho', hc⟩ ?_)
  have ht : (Value.type "tuple" == Value.type "tuple") = true := by rfl
  rw [if_pos (by rw [ht]; simp)]
  refine wpAny_bind (listItems_at ho' hd ?_)
  refine wpAny_bind (listItems_at (xs := #[]) (n := 0) (Heap.get?_push_size _ rfl) rfl ?_)
  rw [if_neg (by simp)]
  refine wpAny_bind (listUpdate_at (xs := #[]) (n := 0) (Heap.get?_push_size _ rfl) rfl ?_ (Nat.zero_le _) (by show (#[] ++ vs.toArray).size ≤ sizeLine + 1; simp only [Array.size_append, List.size_toArray, List.length_nil]; omega))
  refine wpAny_pure ?_
  show wpAny (model prog w) A (do
      let o ← load s.heap.objs.size
      match o.data with
      | .seq xs _ => pure xs.toList
      | _ => unsupported "internal:collect") Q E { s with heap := (s.heap.push (seqObj "list" #[] 0)).update s.heap.objs.size (Obj.mapSeq (· ++ vs.toArray)) }
  refine wpAny_bind (wpAny_load (get?_update_seq (Heap.get?_push_size _ rfl) _) ?_)
  show wpAny _ _ (pure ((#[] : Array Value) ++ vs.toArray).toList) Q E _
  rw [show ((#[] : Array Value) ++ vs.toArray).toList = vs by simp]
  exact wpAny_pure h
open PySem.Calls PySem.W in
theorem sorted_tup_sort {prog : Program} {w : World} {A : Around} {E : Value → Shared → Prop} {s : Shared} {l : Addr} {vs : List Value} {Q : Value → Shared → Prop} (hl : s.heap.IsTuple l vs.toArray) (hL : vs.length ≤ sizeLine)
    (body : ∀ E' : Value → Shared → Prop, wpAny (model prog w) A.in1.in1 (Builtin.«list.sort» ⟨[.ref (s.heap.objs.size + 1)], []⟩) (fun f s' => f = .done (.ret .none) ∧ Q (.ref (s.heap.objs.size + 1)) s') E' { s with heap := copyHeap s.heap vs }) :
    wpAny (model prog w) A (PySem.call (.builtin "sorted") [.ref l] []) Q E s := by
  refine call_function_entry_kw kind_sorted plain_sorted entry_sorted (args_sorted1 _) ?_
  unfold Builtin.«sorted»
  refine wpAny_bind (m := checkCount "sorted" 1 1 _) (wpAny_pure ?_)
  refine wpAny_bind (collect_tup hl ?_ hL)
  refine wpAny_bind (wpAny_newList ?_ hL)
  have hsz : ((s.heap.push (seqObj "list" #[] 0)).update s.heap.objs.size (Obj.mapSeq (· ++ vs.toArray))).objs.size = s.heap.objs.size + 1 := by
    rw [Heap.size_update, size_push']
  show wpAny _ _ _ _ _ { s with heap := copyHeap s.heap vs }
  rw [hsz]
  refine wpAny_bind (wpAny_holding (wpAny_call_entry_kw slot_list_sort ⟨_, copyHeap_at s.heap vs, rfl⟩ entry_list_sort ?body (args_list_sort _)))
  case body =>
    show wpAny (model prog w) A.in1.in1 (Builtin.«list.sort» ⟨[.ref (s.heap.objs.size + 1)], []⟩) _ _ _
    refine wpAny_mono (body _) (fun f s' hf => ?_) fun _ _ e => e
    obtain ⟨rfl, hq⟩ := hf
    exact ⟨_, rfl, wpAny_pure ⟨_, rfl, hq⟩⟩
open PySem.W in
theorem sorted_tup_data {β : Type} {enc : β → PyData} {bs : List β} {R : Value → β → Prop} {prog : Program} {w : World} {A : Around} {E : Value → Shared → Prop} {s : Shared} {vs : List Value} {l : Addr} {Q : Value → Shared → Prop} (hl : s.heap.IsTuple l vs.toArray) (e : EachIs R vs bs) (er : EachIs (fun v b => ∃ as, Reads s.heap v (enc b) as) vs bs) (hal : AllAlike (bs.map enc)) (hk : Sortable (bs.map enc)) (hL : bs.length ≤ sizeLine)
    (hu : ∀ b, b ∈ bs → A.units + 2 + (enc b).depth < cLine) (h : ∀ out, out.length = bs.length → EachIs R out (bs.mergeSort (dataLe false enc)) → Q (.ref (s.heap.objs.size + 1)) { s with heap := sortedAll s.heap vs (List.toArray out) }) :
    wpAny (model prog w) A (PySem.call (.builtin "sorted") [.ref l]) Q E s := by
  have er' : EachIs (fun v b => ∃ as, Reads (sortingHeap (copyHeap s.heap vs) (s.heap.objs.size + 1) vs) v (enc b) as) vs bs := er.mono fun _ _ ⟨as, r⟩ => ⟨as, PyProof.Rows.Reads.keeps (fun _ _ => sorting_copy_old) r⟩
  have hL' : vs.length ≤ sizeLine := by rw [e.length]; exact hL
  have S := SortsAt.data (prog := prog) (w := w) (A := A.in1.in1) (s := { s with heap := sortingHeap (copyHeap s.heap vs) (s.heap.objs.size + 1) vs }) (each_map (R := fun v d => ∃ as, Reads (sortingHeap (copyHeap s.heap vs) (s.heap.objs.size + 1) vs) v d as) enc er') hal hk (bound_map hu)
  exact sorted_tup_sort hl hL' fun _ => list_sort_vals (s := { s with heap := copyHeap s.heap vs }) (copyHeap_at s.heap vs) S hL' ⟨rfl, h _ (by rw [sortVals_length false rfl]; exact e.length) (sortVals_data false e er' hal)⟩
def bSorted : OB := fun ds k => match ds with
  | [.list xs] => sortOk xs ∧ k (.lst (sortD xs))
  | [.tuple xs] => sortOk xs ∧ k (.lst (sortD xs))
  | _ => False
theorem call_sorted (hc : X.calm = true) (hu : X.A.units + 60 < cLine) : CallR X (.builtin "sorted") (fun us H Q => ∃ F a xs ds, us = [.ref a] ∧ Same F H ∧ (H a = some (.lst xs) ∨ SqT X.K H a xs) ∧ DqAll X.K F xs ds ∧ sortOk ds ∧ ∀ p ys, H p = none → DqAll X.K F ys (sortD ds) → Q (.ref p) (upd H p (.lst ys))) := by
  rintro pins s σ H vs us Q I r ⟨F, a, xs, ds, rfl, sf, h, t, ok, q⟩
  obtain ⟨u, rfl, ru⟩ := r.one
  cases ru
  obtain ⟨its, rv, il, ⟨as, ra⟩, hz⟩ : ∃ its : List Value, Vals xs its ∧ (s.heap.IsList a its.toArray ∨ s.heap.IsTuple a its.toArray) ∧ (∃ as, ReadsAll s.heap its ds as) ∧ xs.length ≤ sizeLine := by
    rcases h with h | h
    · obtain ⟨its, rv, il, ra, hz⟩ := rd_list I sf h t
      exact ⟨its, rv, .inl il, ra, hz⟩
    · obtain ⟨its, rv, il, ra, hz⟩ := rd_tup I sf h t
      exact ⟨its, rv, .inr il, ra, hz⟩
  obtain ⟨z1, z2⟩ := zip_snd t
  have hdep : ∀ b ∈ xs.zip ds, X.A.units + 2 + (b.2).depth < cLine := fun b hb => by
    have : b.2 ∈ ds := by rw [← z1]; exact List.mem_map_of_mem hb
    have := depthAll_mem this
    have := ok.2.2
    omega
  have fin : ∀ out : List Value, out.length = (xs.zip ds).length → PySem.W.EachIs (fun v (b : V × PyData) => RelV b.1 v) out ((xs.zip ds).mergeSort (PySem.W.dataLe false fun b : V × PyData => b.2)) → EP X pins σ Q (.ref (s.heap.objs.size + 1)) { s with heap := sortedAll s.heap its (List.toArray out) } := fun out ho eo => by
    obtain ⟨e, he⟩ := sortedAll_at s.heap its out.toArray
    have rv' := vals_map (ys := []) eo
    refine ⟨.ref (s.heap.objs.size + 1), _, I.laid (t' := s.toks) (fun _ _ => sortedAll_old) (Nat.le_succ _) (show ObjOk X.prog X.w _ _ _ (.lst _) from ⟨?_, out, e, rv', he⟩), rfl, q _ _ (I.hok.fresh (Nat.le_succ _)) ?_⟩
    · rw [List.length_map, List.length_mergeSort, z2]; exact hz
    · have e2 : (((xs.zip ds).mergeSort (PySem.W.dataLe false fun b : V × PyData => b.2)).map (·.2)) = sortD ds := by
        unfold sortD
        have e3 := List.map_mergeSort (r := PySem.W.dataLe false fun b : V × PyData => b.2) (s := PySem.W.dataLe false id) (f := fun b : V × PyData => b.2) (l := xs.zip ds) (fun _ _ _ _ => rfl)
        rw [z1] at e3
        exact e3
      rw [← e2]
      exact dq_map fun b hb => dq_mem t b (List.mem_mergeSort.mp hb)
  rcases il with il | il
  · exact PySem.W.sorted_data (enc := fun b : V × PyData => b.2) (R := fun v b => RelV b.1 v) (bs := xs.zip ds) il (each_zip t rv) (each_rd t rv ra) (by rw [z1]; exact ok.1) (by rw [z1]; exact ok.2.1) (by rw [z2]; exact hz) hdep fin
  · exact sorted_tup_data (enc := fun b : V × PyData => b.2) (R := fun v b => RelV b.1 v) (bs := xs.zip ds) il (each_zip t rv) (each_rd t rv ra) (by rw [z1]; exact ok.1) (by rw [z1]; exact ok.2.1) (by rw [z2]; exact hz) hdep fin
theorem bd_sorted (hc : X.calm = true) (hu : X.A.units + 101 < cLine) : BD X (.builtin "sorted") bSorted := ⟨_, call_sorted hc (by omega), fun {F H ds vs k Q'} s l ho go => by
  unfold bSorted at ho
  split at ho
  · obtain ⟨v, rfl, q⟩ := lk1 l
    obtain ⟨a, xs, rfl, h, t⟩ := lstH s q
    exact ⟨F, a, xs, _, rfl, s, .inl h, t, ho.1, fun p ys hp ty => go _ _ _ _ _ (.lst hp ty) ho.2⟩
  · obtain ⟨v, rfl, q⟩ := lk1 l
    obtain ⟨a, xs, rfl, _, h, t⟩ := tupH s q
    exact ⟨F, a, xs, _, rfl, s, .inr h, t, ho.1, fun p ys hp ty => go _ _ _ _ _ (.lst hp ty) ho.2⟩
  · exact ho.elim⟩
end
end DL

namespace DL
open PySem PySem.Spec PyProof.Rows L2
/-! ### slots about which nothing need be known -/
def lo : Option PyData → Sl
  | none => .e
  | some d => .v (.dat d)
def okS (s : Sl) : Prop := ∃ o, s = lo o
theorem okS.e : okS .e := ⟨none, rfl⟩
theorem okS.v {d : PyData} : okS (.v (.dat d)) := ⟨some d, rfl⟩
theorem okS.lo {o : Option PyData} : okS (lo o) := ⟨o, rfl⟩
def npS : Sl → Prop
  | .p _ => False
  | _ => True
theorem notP_0 {s : Sl} {ρ : En} : notP (s :: ρ) 0 = npS s := by cases s <;> rfl
theorem notP_s {s : Sl} {ρ : En} {i : Nat} : notP (s :: ρ) (i + 1) = notP ρ i := rfl
theorem npS_lo {o : Option PyData} : npS (lo o) = True := by cases o <;> rfl
theorem npS_e : npS .e = True := rfl
theorem npS_v {n : N} : npS (.v n) = True := rfl
def vokS : Option Sl → Prop
  | some .e => True
  | some (.v (.dat _)) => True
  | none => True
  | _ => False
theorem vsOk_nil {ρ : En} : vsOk ρ [] = True := rfl
theorem vsOk_cons {ρ : En} {v : Nat} {vs : List Nat} : vsOk ρ (v :: vs) = (vokS ρ[v]? ∧ vsOk ρ vs) := by
  rw [vsOk]
  unfold vokS
  rfl
theorem vokS_lo {o : Option PyData} : vokS (some (lo o)) = True := by cases o <;> rfl
theorem vokS_e : vokS (some .e) = True := rfl
theorem vokS_v {d : PyData} : vokS (some (.v (.dat d))) = True := rfl
theorem vokS_n : vokS none = True := rfl
theorem restE_nil {ρ0 ρ : En} : restE ρ0 [] ρ = ρ := rfl
/-- environments with some slots loose -/
def Fr1 (f : Sl → En) (ρ : En) : Prop := ∃ a, okS a ∧ ρ = f a
def Fr2 (f : Sl → Sl → En) (ρ : En) : Prop := ∃ a b, okS a ∧ okS b ∧ ρ = f a b
def Fr3 (f : Sl → Sl → Sl → En) (ρ : En) : Prop := ∃ a b c, okS a ∧ okS b ∧ okS c ∧ ρ = f a b c
def Fr4 (f : Sl → Sl → Sl → Sl → En) (ρ : En) : Prop := ∃ a b c d, okS a ∧ okS b ∧ okS c ∧ okS d ∧ ρ = f a b c d
def Fr5 (f : Sl → Sl → Sl → Sl → Sl → En) (ρ : En) : Prop := ∃ a b c d e, okS a ∧ okS b ∧ okS c ∧ okS d ∧ okS e ∧ ρ = f a b c d e
def Fr6 (f : Sl → Sl → Sl → Sl → Sl → Sl → En) (ρ : En) : Prop := ∃ a b c d e g, okS a ∧ okS b ∧ okS c ∧ okS d ∧ okS e ∧ okS g ∧ ρ = f a b c d e g
def Fr7 (f : Sl → Sl → Sl → Sl → Sl → Sl → Sl → En) (ρ : En) : Prop := ∃ a b c d e g h, okS a ∧ okS b ∧ okS c ∧ okS d ∧ okS e ∧ okS g ∧ okS h ∧ ρ = f a b c d e g h
/-! ### loops -/
section
variable {α σ : Type} {Z : KX} {D : DE} {g : WG} {b : WS}
/-- a loop that looks for the first thing: P the environments at its head, Po those at a return -/
theorem loop_find {enc : α → PyData} (P Po : En → Prop) (f : α → Option PyData) : ∀ (l : List α),
    (∀ a ∈ l, ∀ ρ, P ρ → ∀ K, (f a = none → ∀ ρ', P ρ' → K ρ') → (∀ d, f a = some d → ∀ ρ', Po ρ' → D.rt (.dat d) ρ') → g (enc a) ρ fun ρ1 => b Z { D with nx := K, ct := K, bk := D.nx } ρ1) →
    (l.findSome? f = none → ∀ ρ, P ρ → D.nx ρ) → (∀ d, l.findSome? f = some d → ∀ ρ, Po ρ → D.rt (.dat d) ρ) → ∀ ρ, P ρ → wLoop Z D g b (l.map enc) ρ
  | [], _, hn, _, ρ, h => hn rfl ρ h
  | a :: l, step, hn, hs, ρ, h => step a List.mem_cons_self ρ h (wLoop Z D g b (l.map enc)) (fun e ρ' h' => loop_find P Po f l (fun a ha => step a (List.mem_cons_of_mem _ ha)) (fun e' => hn (by rw [List.findSome?_cons, e]; exact e')) (fun d e' => hs d (by rw [List.findSome?_cons, e]; exact e')) ρ' h') fun d e ρ' h' => hs d (by rw [List.findSome?_cons, e]) ρ' h'
/-- a loop that carries a state -/
theorem loop_fold {enc : α → PyData} (P : σ → En → Prop) (f : σ → α → σ) : ∀ (l : List α) (s : σ),
    (∀ a ∈ l, ∀ s ρ, P s ρ → ∀ K, (∀ ρ', P (f s a) ρ' → K ρ') → g (enc a) ρ fun ρ1 => b Z { D with nx := K, ct := K, bk := D.nx } ρ1) →
    (∀ ρ, P (l.foldl f s) ρ → D.nx ρ) → ∀ ρ, P s ρ → wLoop Z D g b (l.map enc) ρ
  | [], s, _, fin, ρ, h => fin ρ h
  | a :: l, s, step, fin, ρ, h => step a List.mem_cons_self s ρ h (wLoop Z D g b (l.map enc)) fun ρ' h' => loop_fold P f l (f s a) (fun a ha => step a (List.mem_cons_of_mem _ ha)) fin ρ' h'
/-- a loop of which no more is said than how often it went -/
theorem loop_cnt {enc : α → PyData} (P : Nat → En → Prop) : ∀ (l : List α) (n : Nat), (∀ a ∈ l, ∀ (n : Nat) (ρ : En), P n ρ → ∀ K : En → Prop, (∀ ρ', P (n + 1) ρ' → K ρ') → g (enc a) ρ fun ρ1 => b Z { D with nx := K, ct := K, bk := D.nx } ρ1) → (∀ ρ, P (n + l.length) ρ → D.nx ρ) → ∀ ρ : En, P n ρ → wLoop Z D g b (l.map enc) ρ
  | [], n, _, fin, ρ, h => fin ρ h
  | a :: l, n, step, fin, ρ, h => step a List.mem_cons_self n ρ h (wLoop Z D g b (l.map enc)) fun ρ' h' => loop_cnt P l (n + 1) (fun a ha => step a (List.mem_cons_of_mem _ ha)) (fun ρ q => fin ρ (by rw [List.length_cons]; rwa [Nat.add_right_comm] at q)) ρ' h'
/-- a loop with an invariant -/
theorem loop_keep {enc : α → PyData} (P : En → Prop) (l : List α) (step : ∀ a ∈ l, ∀ (ρ : En), P ρ → ∀ K : En → Prop, (∀ ρ', P ρ' → K ρ') → g (enc a) ρ fun ρ1 => b Z { D with nx := K, ct := K, bk := D.nx } ρ1) (fin : ∀ ρ, P ρ → D.nx ρ) (ρ : En) (h : P ρ) : wLoop Z D g b (l.map enc) ρ :=
  loop_cnt (fun _ => P) l 0 (fun a ha _ => step a ha) fin ρ h
end
/-! ### ranges, slices, indices -/
abbrev eN : Nat → PyData := fun i => .int (i : Int)
theorem rg_nat (a n : Nat) : rgL (a : Int) (n : Int) = (List.range' a (n - a)).map eN := by
  unfold rgL
  rw [show ((n : Int) - (a : Int)).toNat = n - a by omega, List.range'_eq_map_range, List.map_map]
  exact List.map_congr_left fun i _ => by show PyData.int _ = PyData.int _; congr 1
abbrev tI (xs : List Int) : PyData := .tuple (xs.map .int)
abbrev lI (xs : List Int) : PyData := .list (xs.map .int)
def gI (xs : List Int) (i : Nat) : Int := xs.getD i 0
theorem gI_at {xs : List Int} {i : Nat} (h : i < xs.length) : gI xs i = xs[i] := by unfold gI; rw [List.getD_eq_getElem?_getD, List.getElem?_eq_getElem h]; rfl
theorem atD_g {xs : List Int} {i : Nat} {k : PyData → Prop} (h : i < xs.length) : atD (xs.map PyData.int) (i : Int) k = k (.int (gI xs i)) := by rw [atD_i h, gI_at h]
theorem atD0 {α : Type} {a : α} {l : List α} {k : α → Prop} : atD (a :: l) 0 k = k a := atD_nat (ds := a :: l) (i := 0) (k := k) (by simp)
theorem atD1 {α : Type} {a b : α} {l : List α} {k : α → Prop} : atD (a :: b :: l) 1 k = k b := atD_nat (ds := a :: b :: l) (i := 1) (k := k) (by simp)
theorem atD2 {α : Type} {a b c : α} {l : List α} {k : α → Prop} : atD (a :: b :: c :: l) 2 k = k c := atD_nat (ds := a :: b :: c :: l) (i := 2) (k := k) (by simp)
theorem cut_to {α : Type} (xs : List α) (a : Nat) : DL.cutD xs none (some (a : Int)) = xs.take a := by
  unfold DL.cutD
  rw [HT.sIx_none, show HT.sIx xs.length xs.length (some (a : Int)) = min a xs.length from HT.sIx_nat _ _ a, List.drop_zero, Nat.sub_zero]
  by_cases h : a ≤ xs.length
  · rw [Nat.min_eq_left h]
  · rw [Nat.min_eq_right (by omega), List.take_length, List.take_of_length_le (by omega)]
theorem cut_from {α : Type} (xs : List α) (a : Nat) : DL.cutD xs (some (a : Int)) none = xs.drop a := by
  unfold DL.cutD
  rw [HT.sIx_none, show HT.sIx xs.length 0 (some (a : Int)) = min a xs.length from HT.sIx_nat _ _ a]
  by_cases h : a ≤ xs.length
  · rw [Nat.min_eq_left h, List.take_of_length_le (by rw [List.length_drop]; omega)]
  · rw [Nat.min_eq_right (by omega), Nat.sub_self, List.take_zero, List.drop_of_length_le (by omega)]
theorem cut_mem {α : Type} {xs : List α} {lo hi : Option Int} {x : α} (h : x ∈ DL.cutD xs lo hi) : x ∈ xs := List.mem_of_mem_drop (List.mem_of_mem_take h)
theorem cut_len {α : Type} {xs : List α} {lo hi : Option Int} : (DL.cutD xs lo hi).length ≤ xs.length := by
  unfold DL.cutD
  rw [List.length_take, List.length_drop]
  omega
theorem zeros (n : Nat) : (List.replicate n [PyData.int 0]).flatten = (List.replicate n (0 : Int)).map PyData.int := by
  induction n with
  | zero => rfl
  | succ n ih => rw [List.replicate_succ, List.replicate_succ, List.flatten_cons, List.map_cons, ih]; rfl
/-! ### drawn lists of ints -/
def inR (lo hi : Int) (xs : List Int) : Prop := ∀ x ∈ xs, lo ≤ x ∧ x ≤ hi
theorem pick_allN (v : Nat) {lo hi : Int} {n : Nat} (hn : n ≤ 1000) {Q : DL.N → En → Prop} {te : WE} {ρ : En}
    (hab : ∀ (i : Int) (k : PyData → En → Prop), (∀ r, lo ≤ r → r ≤ hi → k (.int r) ρ) → gN v (.int i) (wipeE ρ [v]) fun ρ2 => te Z0 ρ2 fun n ρ4 => asD n fun e => k e (restE ρ [v] ρ4)) (ok : vsOk ρ [v])
    (q : ∀ xs : List Int, xs.length = n → inR lo hi xs → Q (.lst (xs.map .int)) ρ) : lcLoop [v] (gN v) wYes te Q ((List.range n).map fun i : Nat => .int (i : Int)) ρ [] := by
  refine lc_all (enc := fun i : Nat => PyData.int (i : Int)) (fun e => ∃ r, e = .int r ∧ lo ≤ r ∧ r ≤ hi) ok (fun i hi k hk => hab _ k fun r h1 h2 => hk _ ⟨r, rfl, h1, h2⟩) (by simp; omega) fun es h1 h2 => ?_
  obtain ⟨xs, rfl, hx⟩ := ints_of h2
  rw [List.nil_append]
  refine q xs ?_ hx
  rw [List.length_map, List.length_range] at h1
  omega
theorem sum_le : ∀ {l : List Int} {B : Int}, (∀ x ∈ l, -B ≤ x ∧ x ≤ B) → -(B * l.length) ≤ l.sum ∧ l.sum ≤ B * l.length
  | [], B, _ => by simp
  | x :: l, B, h => by
    have ih := sum_le (l := l) (B := B) fun y hy => h y (List.mem_cons_of_mem _ hy)
    have hx := h x List.mem_cons_self
    rw [List.sum_cons, List.length_cons]
    have e : B * ((l.length + 1 : Nat) : Int) = B * l.length + B := by rw [Int.natCast_add, Int.mul_add]; simp
    rw [e]
    omega
/-! ### what can be shown -/
abbrev repD (d : PyData) : Prop := ∀ k : DL.N → Prop, k (.dat (.str d.shown)) → bRepr [d] k
def smN (n : Nat) (x : PyData) : Prop := okI x = true ∧ x.depth ≤ 10 ∧ x.bulk ≤ n
theorem sm_int {i : Int} (h : i.natAbs < 2 ^ 200) : smN 0 (.int i) := ⟨decide_eq_true h, Nat.zero_le _, Nat.zero_le _⟩
theorem sm_all {n : Nat} {D : Nat} : ∀ {xs : List PyData}, (∀ x ∈ xs, okI x = true ∧ x.depth ≤ D ∧ x.bulk ≤ n) → okIs xs = true ∧ PyData.depthAll xs ≤ D ∧ PyData.bulkAll xs ≤ (n + 1) * xs.length
  | [], _ => ⟨rfl, Nat.zero_le _, Nat.zero_le _⟩
  | x :: xs, h => by
    obtain ⟨a, b, c⟩ := h x List.mem_cons_self
    obtain ⟨a', b', c'⟩ := sm_all fun y hy => h y (List.mem_cons_of_mem _ hy)
    refine ⟨?_, ?_, ?_⟩
    · show (okI x && okIs xs) = true
      rw [a, a']; rfl
    · show max x.depth (PyData.depthAll xs) ≤ D
      omega
    · show x.bulk + 1 + PyData.bulkAll xs ≤ (n + 1) * (xs.length + 1)
      rw [Nat.mul_add]; omega
/-- d can be shown and compared; its depth and its bulk -/
def okB (D n : Nat) (x : PyData) : Prop := okI x = true ∧ x.depth ≤ D ∧ x.bulk ≤ n
theorem okB.le {D D' n n' : Nat} {x : PyData} (h : okB D n x) (h1 : D ≤ D') (h2 : n ≤ n') : okB D' n' x := ⟨h.1, by have := h.2.1; omega, by have := h.2.2; omega⟩
theorem okB.i {i : Int} (h : i.natAbs < 2 ^ 64) : okB 0 0 (.int i) := ⟨decide_eq_true (Nat.lt_trans h (by decide)), Nat.zero_le _, Nat.zero_le _⟩
theorem okB.non : okB 0 0 .none := ⟨rfl, Nat.zero_le _, Nat.zero_le _⟩
theorem okB.bl {b : Bool} : okB 0 0 (.bool b) := ⟨rfl, Nat.zero_le _, Nat.zero_le _⟩
theorem okB.tI {xs : List Int} (h : smI xs) : okB 1 xs.length (tI xs) := ⟨okI_i h, by show PyData.depthAll _ + 1 ≤ 1; rw [(lay_ints xs).2]; omega, Nat.le_of_eq (bulk_i xs)⟩
theorem okB.lI {xs : List Int} (h : smI xs) : okB 1 xs.length (lI xs) := ⟨okI_i h, by show PyData.depthAll _ + 1 ≤ 1; rw [(lay_ints xs).2]; omega, Nat.le_of_eq (bulk_i xs)⟩
theorem okB.tup {D n : Nat} {xs : List PyData} (h : ∀ x ∈ xs, okB D n x) : okB (D + 1) ((n + 1) * xs.length) (.tuple xs) := let ⟨a, b, c⟩ := sm_all h; ⟨a, Nat.add_le_add_right b 1, c⟩
theorem okB.lst {D n : Nat} {xs : List PyData} (h : ∀ x ∈ xs, okB D n x) : okB (D + 1) ((n + 1) * xs.length) (.list xs) := let ⟨a, b, c⟩ := sm_all h; ⟨a, Nat.add_le_add_right b 1, c⟩
theorem okB.rep {D n : Nat} {x : PyData} (h : okB D n x) (h1 : D ≤ 100) (h2 : n ≤ 70000) : repD x := fun k q => by
  have r := rep_ok h.1 (Nat.le_trans h.2.1 h1) (Nat.le_trans h.2.2 h2)
  cases x with
  | int i =>
    have := of_decide_eq_true h.1
    exact ⟨log_of (Nat.lt_trans this (Nat.pow_lt_pow_right (by decide) (by decide : 200 < 1920))) (by decide), q⟩
  | bool b => exact q
  | none => exact q
  | str z => exact ⟨r.2.2.2, q⟩
  | list xs => exact ⟨r, q⟩
  | tuple xs => exact ⟨r, q⟩
  | dict kvs => exact ⟨r, q⟩
theorem okB.eqv {D n : Nat} {x : PyData} (h : okB D n x) : PyData.eqv x x = true := eqv_self h.1
theorem okB.shaped {D n : Nat} {x : PyData} (h : okB D n x) (h1 : D ≤ 64) : SeqAt.shaped x = true := shaped_ok h.1 (Nat.le_trans h.2.1 h1)
theorem smI_of {lo hi : Int} {xs : List Int} (h : inR lo hi xs) (h1 : -1000000 ≤ lo) (h2 : hi ≤ 1000000) : smI xs := fun x hx => by have := h x hx; omega
theorem mem2 {p : PyData → Prop} {a b : PyData} (h1 : p a) (h2 : p b) : ∀ x ∈ [a, b], p x := List.forall_mem_cons.mpr ⟨h1, List.forall_mem_cons.mpr ⟨h2, fun _ h => nomatch h⟩⟩
theorem mem1 {p : PyData → Prop} {a : PyData} (h1 : p a) : ∀ x ∈ [a], p x := List.forall_mem_cons.mpr ⟨h1, fun _ h => nomatch h⟩
theorem mem3 {p : PyData → Prop} {a b c : PyData} (h1 : p a) (h2 : p b) (h3 : p c) : ∀ x ∈ [a, b, c], p x := List.forall_mem_cons.mpr ⟨h1, mem2 h2 h3⟩
end DL

namespace DL
open PySem PySem.Spec PyProof.Rows L2
theorem asD_dat {d : PyData} {k : PyData → Prop} : asD (.dat d) k = k d := propext ⟨fun h => h, fun h => h⟩
theorem asD_lst {ds : List PyData} {k : PyData → Prop} : asD (.lst ds) k = k (.list ds) := propext ⟨fun h => h, fun h => h⟩
theorem asD_dK {kvs : List (Key × PyData)} {k : PyData → Prop} : asD (.dK kvs) k = (kvs ≠ [] ∧ k (encK kvs)) := propext ⟨fun h => h, fun h => h⟩
theorem asD_dT {kvs : List (List Key × PyData)} {k : PyData → Prop} : asD (.dT kvs) k = k (encT kvs) := propext ⟨fun h => h, fun h => h⟩
theorem bD_b {b : Bool} {k : Bool → Prop} : bD (.dat (.bool b)) k = k b := propext ⟨fun h => h, fun h => h⟩
/-! ### bits of numbers from 0 up -/
theorem band_n (a b : Nat) : Builtin.bitAnd (a : Int) (b : Int) = ((a &&& b : Nat) : Int) := by
  unfold Builtin.bitAnd
  rw [decide_eq_true (show (0 : Int) ≤ (a : Int) by omega), decide_eq_true (show (0 : Int) ≤ (b : Int) by omega)]
  rfl
theorem bor_n (a b : Nat) : Builtin.bitOr (a : Int) (b : Int) = ((a ||| b : Nat) : Int) := by
  unfold Builtin.bitOr Builtin.bitAnd Builtin.bitNot
  rw [decide_eq_false (show ¬ (0 : Int) ≤ -(a : Int) - 1 by omega), decide_eq_false (show ¬ (0 : Int) ≤ -(b : Int) - 1 by omega)]
  show -(-((((-(-(a : Int) - 1) - 1).toNat ||| (-(-(b : Int) - 1) - 1).toNat : Nat) : Int)) - 1) - 1 = _
  rw [show (-(-(a : Int) - 1) - 1).toNat = a by omega, show (-(-(b : Int) - 1) - 1).toNat = b by omega]
  omega
theorem shr_n (a i : Nat) : (a : Int) / 2 ^ i = ((a / 2 ^ i : Nat) : Int) := by rw [Int.natCast_ediv]; simp
theorem shl_n (i : Nat) : (1 : Int) * 2 ^ i = ((2 ^ i : Nat) : Int) := by rw [Int.one_mul]; simp
theorem bit_n (a i : Nat) : Builtin.bitAnd ((a : Int) / 2 ^ i) 1 = if a.testBit i = true then 1 else 0 := by
  rw [shr_n, bitAnd_m1, Nat.testBit_eq_decide_div_mod_eq]
  by_cases h : a / 2 ^ i % 2 = 1
  · rw [if_pos (decide_eq_true h)]; omega
  · rw [if_neg (by rw [decide_eq_true_eq]; exact h)]; omega
theorem bit1_n (a i : Nat) : decide (Builtin.bitAnd ((a : Int) / 2 ^ i) 1 = 1) = a.testBit i := by
  rw [bit_n]; cases a.testBit i <;> rfl
theorem bit1b_n (a i : Nat) : (Builtin.bitAnd ((a : Int) / 2 ^ i) 1 == 1) = a.testBit i := by
  rw [bit_n]; cases a.testBit i <;> rfl
theorem bit0_n (a i : Nat) : (Builtin.bitAnd ((a : Int) / 2 ^ i) 1 != 0) = a.testBit i := by
  rw [bit_n]; cases a.testBit i <;> rfl
theorem bit0b_n (a i : Nat) : (Builtin.bitAnd ((a : Int) / 2 ^ i) 1 == 0) = !a.testBit i := by
  rw [bit_n]; cases a.testBit i <;> rfl
theorem one_n (a : Nat) : (1 : Int) + (a : Int) = ((1 + a : Nat) : Int) := by omega
theorem succ_n (a : Nat) : (a : Int) + 1 = ((a + 1 : Nat) : Int) := by omega
theorem min_n (a b : Nat) : (if (b : Int) < (a : Int) then (b : Int) else (a : Int)) = ((min a b : Nat) : Int) := by
  split <;> omega
abbrev tN (xs : List Nat) : PyData := .tuple (xs.map eN)
abbrev lN (xs : List Nat) : PyData := .list (xs.map eN)
theorem tN_tI (xs : List Nat) : tN xs = tI (xs.map fun i : Nat => (i : Int)) := by unfold tN tI; rw [List.map_map]; rfl
/-- the numbers of the bits below 4 -/
def lot4 (n : Nat) : List Nat := (List.range 4).filter n.testBit
/-! ### the first of several -/
theorem find_flat {α β γ : Type} (h : α → List β) (f : β → Option γ) : ∀ l : List α, (l.findSome? fun a => (h a).findSome? f) = (l.flatMap h).findSome? f
  | [] => rfl
  | a :: l => by
    rw [List.findSome?_cons, List.flatMap_cons, List.findSome?_append, find_flat h f l]
    cases (h a).findSome? f <;> rfl
theorem find_map {α β γ : Type} (h : α → β) (f : β → Option γ) : ∀ l : List α, (l.map h).findSome? f = l.findSome? fun a => f (h a)
  | [] => rfl
  | a :: l => by rw [List.map_cons, List.findSome?_cons, List.findSome?_cons, find_map h f l]
theorem find_congr {α γ : Type} {f g : α → Option γ} : ∀ {l : List α}, (∀ a ∈ l, f a = g a) → l.findSome? f = l.findSome? g
  | [], _ => rfl
  | a :: l, h => by rw [List.findSome?_cons, List.findSome?_cons, h a List.mem_cons_self, find_congr fun a ha => h a (List.mem_cons_of_mem _ ha)]
/-! name = [..], the list frozen -/
section
variable {X : Cx} {E : EX} {elt tg iter : Expr} {ifs : List Expr} {scope : Scope} {own : List (Str × Nat)} {pos spos py : Pos} {wi : WI} {g : WG} {tt : WT} {te : WE} {i : Nat} {y : Str}
theorem s_setLcF {l : Bool} (hy : X.N[i]? = some y) (hyl : X.env.scope.names.lookup y = some .local) (hsw : swapsWith (.ListComp elt [⟨tg, iter, ifs, 0⟩] scope pos) (some (.Name y py)) spos.line X.env = pure true)
    (hc : X.calm = true) (hN : X.N.Nodup) (ok : BlkOk X.N X.env.scope scope own) (hi : PI X tg iter (riB l X.K X.mg E wi))
    (hg : ∀ (s : Shared) (H : Hp) (C : Addr) (cl : List (Str × Addr)) (fp : List Addr), PG (X.blk s H scope (compEnvC scope cl C X.env) fp) tg (rgB l X.K (own.map (·.2)) g))
    (ht : ∀ (s : Shared) (H : Hp) (C : Addr) (cl : List (Str × Addr)) (fp : List Addr), PTs (X.blk s H scope (compEnvC scope cl C X.env) fp) ifs (rt X.K X.mg EF tt))
    (he : ∀ (s : Shared) (H : Hp) (C : Addr) (cl : List (Str × Addr)) (fp : List Addr), PE (X.blk s H scope (compEnvC scope cl C X.env) fp) elt (rd X.K X.mg EF te)) (hs : ∀ x, foldedSetIterable iter X.env x = pure x := by intro _; rfl) :
    PS X (.Assign [.Name y py] (.ListComp elt [⟨tg, iter, ifs, 0⟩] scope pos) spos) (rs X.K X.mg E (sSet i (wLc wi (own.map (·.2)) g tt te))) := ps_imp (ps_setLc hc hN hy hyl hsw hi ok hg ht he hs) fun D σ H h => by
  obtain ⟨ρ, F, fps, Z, DD, st, sc, hw⟩ := rs_open h
  exact lc_imp σ H _ (part st sc.z hw fun d v ρ1 F1 H1 fps1 g q h1 => sc.nx ((Got.of g q).store h1.1) h1.2)
end
end DL
namespace DL
open PySem PySem.Spec PyProof.Rows L2
theorem gN_step {i : Nat} {d : PyData} {ρ ρ' : En} {k : En → Prop} (h : notP ρ i) (e : ρ.set i (.v (.dat d)) = ρ') (q : k ρ') : gN i d ρ k := by subst e; exact ⟨h, q⟩
theorem gN_seq {i : Nat} {d : PyData} {ρ ρ' : En} {a b : WS} {Z : KX} {D : DE} (h : notP ρ i) (e : ρ.set i (.v (.dat d)) = ρ') (q : sSeq a b Z D ρ') : gN i d ρ fun ρ1 => sSeq a b Z D ρ1 := by subst e; exact ⟨h, q⟩
theorem gs2_seq {i j : Nat} {d e : PyData} {ρ ρ' : En} {a b : WS} {Z : KX} {D : DE} (h : notP ρ i) (h2 : notP (ρ.set i (.v (.dat d))) j) (eq : (ρ.set i (.v (.dat d))).set j (.v (.dat e)) = ρ') (q : sSeq a b Z D ρ') : gsN 2 (gCons' (gN i) (gCons' (gN j) gNil')) (.tuple [d, e]) ρ fun ρ1 => sSeq a b Z D ρ1 := by
  subst eq
  simp only [gsN, gCons', gNil', gN, true_and]
  exact ⟨rfl, h, h2, q⟩
theorem ints_step {xs : List Int} {k : List Int → Prop} (h : k xs) : intsD (xs.map .int) k := ⟨xs, rfl, h⟩
end DL

/-! a call of a subscript of a row of defs; the size of a set of ints -/
namespace DL
open PySem PySem.Spec PyProof.Rows L2
def wCallS (np : Nat) (dss : List DSp) (wi : WX) (ws : WA) : WE := fun Z ρ Q => wi Z ρ fun a ρ1 => lkD ρ1 a fun d => match d with
  | .int i => match atI dss i with
    | some ds => ws Z ρ1 fun as ρ2 => as.length = np ∧ (lentI as).Nodup ∧ ds (argE ρ2 as) (fun n ρ' => Q n (backE ρ' 0 as ρ2)) fun x ρ' => Z x (backE ρ' 0 as ρ2)
    | none => False
  | _ => False
/-- a value that is a def, ready to be called -/
def CalV (X : Cx) (k np : Nat) (v : V) (ds : DSp) : Prop := ∃ f fd ps, v = .ref f ∧ PySem.W.keepIn X.K (.ref f) = true ∧ FnG X.prog X.w X.K X.mg X.base k f fd ps (toSp X.K X.mg ps.length ds) ∧ ps.length = np ∧
  ∀ us : List Value, us.length = ps.length → bindArgs fd ⟨us, []⟩ = pure (ps.zip us)
inductive CalVs (X : Cx) (k np : Nat) : List V → List DSp → Prop
  | nil : CalVs X k np [] []
  | cons {v : V} {ds : DSp} {vs : List V} {dss : List DSp} : CalV X k np v ds → CalVs X k np vs dss → CalVs X k np (v :: vs) (ds :: dss)
theorem CalVs.len {X : Cx} {k np : Nat} : ∀ {vs : List V} {dss : List DSp}, CalVs X k np vs dss → vs.length = dss.length
  | _, _, .nil => rfl
  | _, _, .cons _ t => congrArg (· + 1) t.len
theorem CalVs.get {X : Cx} {k np : Nat} : ∀ {vs : List V} {dss : List DSp} {i : Nat} {ds : DSp}, CalVs X k np vs dss → dss[i]? = some ds → ∃ v, vs[i]? = some v ∧ CalV X k np v ds
  | _, _, _, _, .nil, h => by simp at h
  | _, _, 0, _, .cons c t, h => by
    have e := Option.some.inj (show some _ = some _ from h)
    subst e
    exact ⟨_, rfl, c⟩
  | _, _, i + 1, _, .cons c t, h => by
    obtain ⟨v, h1, h2⟩ := t.get (i := i) (by simpa using h)
    exact ⟨v, by simpa using h1, h2⟩
theorem CalVs.at {X : Cx} {k np : Nat} {vs : List V} {dss : List DSp} {i : Int} {ds : DSp} (h : CalVs X k np vs dss) (e : atI dss i = some ds) : ∃ v, atI vs i = some v ∧ CalV X k np v ds := by
  unfold atI at e ⊢
  rw [h.len]
  cases hj : ixN dss.length i with
  | none => rw [hj] at e; cases e
  | some j =>
    rw [hj] at e
    exact h.get e
/-- a row of names of defs, all with as many parameters -/
structure CalL (X : Cx) (k np : Nat) (fs : List Expr) (dss : List DSp) : Prop where
  ex : ∃ vs, CalVs X k np vs dss ∧ PA X fs fun σ H Q => Q vs H
section
variable {X : Cx} {k : Nat} {E : EX} {x : Str} {st : Stmt} {ps : List Str} {ds : DSp} {p pos pl pp : Pos} {e ix : Expr} {es fs : List Expr} {ws : WA} {wi : WX} {np : Nat} {dss : List DSp}
theorem cl_nil : CalL X k np [] [] := ⟨[], .nil, pa_nil⟩
theorem cl_cons (G : Cal X.prog X.w X.K X.mg X.base k x st ps ds) (hg : Gl X x) (hb : BindP x st ps ps.length) (hn : ps.length = np) (t : CalL X k np fs dss) (hdb : (x == ("__debug__" : Str)) = false := by decide) (hs : starEach ((.Name x p : Expr) :: fs) X.env = (false, eval (.Name x p) X.env) :: starEach fs X.env := by rfl) : CalL X k np (.Name x p :: fs) (ds :: dss) := by
  obtain ⟨vs, h1, h2⟩ := t.ex
  obtain ⟨f, fd, hm, ⟨⟨oc, od, kV, doc, pm, an, cdv, ct, osl, rfl, lk, hcd⟩, kp⟩, F⟩ := G.ex
  exact ⟨.ref f :: vs, .cons ⟨f, _, ps, rfl, kp, F, hn, fun us hu => hb kV doc pm an cdv ct us hu⟩ h1, pa_cons (te := fun σ H Q => Q (.ref f) H) (pe_glob hg hm rfl hdb) h2 hs⟩
theorem lk_int {K : PySem.W.Frag} {F H : Hp} {v : V} {i : Int} (l : Lk K F H v (.int i)) : v = .int i := l.int
theorem d_callS (C : Bd X k E) (G : CalL X k np fs dss) (hl : dss.length ≤ 100) (hi : PE X ix (rx X.K X.mg E wi)) (ha : PA X (e :: es) (ra X.K X.mg E ws)) (hs : PlainIx ix := by intro _ _; rfl)
    (he : starEach (e :: es) X.env = (false, eval e X.env) :: starEach es X.env := by rfl) (hpl : (backTo pos (starEach es X.env)).any (·.1) = false := by rfl) :
    PE X (.Call (.Subscript (.List fs pl) ix pp) (e :: es) [] pos) (rd X.K X.mg E (wCallS np dss wi ws)) := by
  obtain ⟨vs, cv, hp⟩ := G.ex
  refine ⟨fun pins s σ H Q I ⟨ρ, F0, fps, Z, Qd, st0, hw, zc, kk⟩ => ?_⟩
  rw [show eval (.Call (.Subscript (.List fs pl) ix pp) (e :: es) [] pos) X.env = (do callWith pos (← eval (.Subscript (.List fs pl) ix pp) X.env) [] (backTo pos (starEach (e :: es) X.env)) (backToKw pos (keywordEach [] X.env))) from rfl]
  refine wpAny_bind ?_
  refine thn ((pe_ix (ix_list (X := X)) (pe_lst (pos := pl) hp) hi hs).run pins s σ H (fun v H2 => ∃ ρ1 F1 fps1 ds, CalV X k np v ds ∧ GotS X.K ρ σ F0 H fps ρ1 σ F1 H2 fps1 ∧ ws Z ρ1 fun as ρ2 => as.length = np ∧ (lentI as).Nodup ∧ ds (argE ρ2 as) (fun n ρ' => Qd n (backE ρ' 0 as ρ2)) fun x ρ' => Z x (backE ρ' 0 as ρ2)) I ?_) fun v s2 ⟨x, H2, I2, r2, q2⟩ => ?_
  · refine ⟨by rw [cv.len]; unfold sizeLine; omega, fun q hq => ?_⟩
    obtain ⟨tr, wf, rs, ap⟩ := own_tr (o := .lst vs) st0 hq
    have gs : GotS X.K ρ σ F0 H fps ρ σ F0 (upd H q (.lst vs)) fps := ⟨tr.less fun _ h => .inl h, ⟨wf.less fun _ h => .inl h, rs⟩, .refl⟩
    refine ⟨ρ, F0, fps, Z, _, gs.st, hw, zc.step gs, fun a v ρ1 F1 H1 fps1 g1 q1 h1 => ?_⟩
    obtain ⟨d, h3, l1⟩ := lk_rel g1.st.rs q1 h1
    match d, h3, l1 with
    | .int i, h3, l1 =>
      obtain rfl := lk_int l1
      dsimp only at h3
      cases ea : atI dss i with
      | none => rw [ea] at h3; exact h3.elim
      | some ds =>
        rw [ea] at h3
        obtain ⟨u, e1, cu⟩ := cv.at ea
        exact ⟨q, vs, i, u, rfl, rfl, SqL.of (g1.tr.keep q _ upd_same fun z => ap q rfl z), e1, ρ1, F1, fps1, ds, cu, gs.trans g1, h3⟩
  · obtain ⟨ρ1, F1, fps1, ds, ⟨f, fd, ps, rfl, kp, F, hn, hb⟩, g, hw1⟩ := q2
    obtain rfl : v = Value.ref f := r2
    refine PySem.W.callWith_K (h₀ := X.base) I2.ok.mod.kin kp (thn (ha.run pos pins s2 σ H2 (fun vs H3 => toSp X.K X.mg ps.length ds vs H3 Q (E σ)) I2 ?_) fun us s3 ⟨vs, H3, I3, r, q⟩ => ⟨I3.kIn, ?_⟩) he hpl
    · refine ⟨ρ1, F1, fps1, Z, _, g.st, hw1, zc.step g, fun as vs ρ2 F2 H2 fps2 g2 r q => sp_call g2.st r (by rw [← relAr_len r, q.1, hn]) q.2.1 q.2.2 ((zc.step g).step g2) fun n v ρ' F' H' fps' fv g3 q3 => kk _ _ _ _ _ _ _ (.after (g.trans g2) g3) q3⟩
    · exact wpAny_call (codeAny_mono (run_g C F I3 (.of_eq (hb us (by rw [← r.length]; exact q.1))) r q) fun out s' z => by
        match out, z with
        | .ok (.ret u), z => exact z
        | .error e, z => exact z)
end
/-! len(set(ints)) -/
def dedI (ns : List Int) : List Int := ns.foldl PyProof.Rows.step_dedup []
theorem firstMet_all (ns : List Int) : PyProof.Rows.firstMet (fun i => ns.getD i 0) ns.length = dedI ns := by
  unfold PyProof.Rows.firstMet dedI
  congr 1
  refine List.ext_getElem (by simp) fun i h1 h2 => ?_
  rw [List.getElem_map, List.getElem_range, List.getD_eq_getElem?_getD, List.getElem?_eq_getElem h2]
  rfl
theorem mem_dedI {ns : List Int} {x : Int} (h : x ∈ ns) : x ∈ dedI ns := by
  have e := PyProof.Rows.firstMet_any (fun i => ns.getD i 0) ns.length x
  rw [firstMet_all] at e
  have e2 : (List.range ns.length).map (fun i => ns.getD i 0) = ns := by
    refine List.ext_getElem (by simp) fun i h1 h2 => ?_
    rw [List.getElem_map, List.getElem_range, List.getD_eq_getElem?_getD, List.getElem?_eq_getElem h2]
    rfl
  rw [e2, List.any_eq_true.mpr ⟨x, h, by simp⟩] at e
  obtain ⟨y, hy, ey⟩ := List.any_eq_true.mp e
  rw [← eq_of_beq ey]; exact hy
theorem dedI_one {ns : List Int} (h : (dedI ns).length = 1) {x y : Int} (hx : x ∈ ns) (hy : y ∈ ns) : x = y := by
  obtain ⟨z, hz⟩ := List.length_eq_one_iff.mp h
  have a := mem_dedI hx
  have b := mem_dedI hy
  rw [hz, List.mem_singleton] at a b
  rw [a, b]
def tLenSetA (K : PySem.W.Frag) (ta : TE) : TE := fun σ H Q => ta σ H fun x H1 => ∃ (l : Addr) (ns : List Int), x = .ref l ∧ SqL K H1 l (ns.map V.int) ∧ ns.length ≤ 4000 ∧ Q (.int (dedI ns).length) H1
theorem pe_lenSetA {X : Cx} {a : Expr} {ta : TE} {p p2 q pos : Pos} (hg : Gl X "len") (hm : X.mg "len" = none) (hg2 : Gl X "set") (hm2 : X.mg "set" = none) (hc : X.calm = true) (ha : PE X a ta)
    (na : starEach [a] X.env = (false, eval a X.env) :: starEach [] X.env := by rfl) : PE X (.Call (.Name "len" p) [.Call (.Name "set" p2) [a] [] q] [] pos) (tLenSetA X.K ta) := by
  refine ⟨fun pins s σ H Q I h => ?_⟩
  refine Call_ (ld_blt I hg hm boot_len ?_)
  refine PyProof.Rows.callWith_builtin1 (PyProof.Rows.args_cons ?_ rfl) rfl rfl
  refine Call_ (ld_blt I hg2 hm2 boot_set ?_)
  refine PyProof.Rows.callWith_type1 (PyProof.Rows.args_cons (thn (ha.run pins s σ H _ I h) fun v s1 ⟨x, H1, I1, r1, q1⟩ => PyProof.Rows.args_nil ?_) na) na rfl
  obtain ⟨l, ns, rfl, hq, hl, q1⟩ := q1
  cases r1
  obtain ⟨its, r, pl, hz⟩ := I1.list hq
  have hlen : its.toArray.size = ns.length := by rw [List.size_toArray, ← r.length, List.length_map]
  refine PySem.call_set_list (I1.ok.hd hc) pl.isList (by simpa using RZ.intsAre_vals r) (by rw [hlen]; unfold scanBound; omega) fun h' tk hS hk => ?_
  refine PyProof.Rows.args_nil ?_
  rw [hlen, firstMet_all] at hS
  have le : (dedI ns).length ≤ ns.length := by rw [← firstMet_all]; exact PyProof.Rows.firstMet_length_le _ _
  obtain ⟨o, es, ep, t, ho, hex, hd, _, _, _, hf, hn⟩ := hS
  have I2 : Inv X pins σ H1 { s1 with heap := h', toks := tk } := I1.kept fun b o e => hk b o (Heap.lt_size e) e
  exact PySem.call_len_set ho hex hd hf (by rw [hn] <;> omega) ⟨.int (dedI ns).length, H1, I2.tok _, ⟨_, by rw [hn]⟩, q1⟩
def wLenSet (wa : WX) : WE := fun Z ρ Q => wa Z ρ fun a ρ1 => lkD ρ1 a fun d => match d with
  | .list ds => intsD ds fun ns => ns.length ≤ 4000 ∧ Q (.dat (.int (dedI ns).length)) ρ1
  | _ => False
theorem d_lenSet {X : Cx} {E : EX} {a : Expr} {wa : WX} {p p2 q pos : Pos} (hc : X.calm = true) (hg : Gl X "len") (hm : X.mg "len" = none) (hg2 : Gl X "set") (hm2 : X.mg "set" = none) (ha : PE X a (rx X.K X.mg E wa))
    (na : starEach [a] X.env = (false, eval a X.env) :: starEach [] X.env := by rfl) : PE X (.Call (.Name "len" p) [.Call (.Name "set" p2) [a] [] q] [] pos) (rd X.K X.mg E (wLenSet wa)) := pe_imp (pe_lenSetA hg hm hg2 hm2 hc ha na) fun σ H Q ⟨ρ, F, fps, Z, Qd, st, hw, zc, k⟩ => by
  refine ⟨ρ, F, fps, Z, _, st, hw, zc, fun a v1 ρ1 F1 H1 fps1 g1 q1 h1 => ?_⟩
  obtain ⟨d, h3, l1⟩ := lk_rel g1.st.rs q1 h1
  match d, h3, l1 with
  | .list ds, h3, l1 =>
    obtain ⟨b, xs, rfl, h, t⟩ := lstH g1.st.wf.sub l1
    obtain ⟨ns, rfl, hl, ho⟩ := h3
    rw [t.ints] at h
    exact ⟨b, ns, rfl, SqL.of h, hl, k _ _ _ _ _ _ _ (.after g1 (.here g1.st (.int _))) ho⟩
end DL

set_option maxHeartbeats 400000
/-! a pot that is a dict: {"great": cells, s: an int, t: an int} -/
namespace DL
open PySem PySem.Spec PyProof.Rows L2
structure PotOk (g s t : Str) : Prop where
  gs : g ≠ s
  gt : g ≠ t
  st : s ≠ t
abbrev potC (g s t : Str) (b : Addr) (m c : Int) : List (Key × V) := [(.inr g, .ref b), (.inr s, .int m), (.inr t, .int c)]
section
variable {g s t : Str} {b : Addr} {m c : Int} (ok : PotOk g s t)
include ok
theorem ne1 : ¬ ((.inr g : Key) = (.inr s : Key)) := fun e => ok.gs (Sum.inr.inj e)
theorem ne2 : ¬ ((.inr g : Key) = (.inr t : Key)) := fun e => ok.gt (Sum.inr.inj e)
theorem ne3 : ¬ ((.inr s : Key) = .inr t) := fun e => ok.st (Sum.inr.inj e)
theorem potC_g : valV (potC g s t b m c) (.inr g) = some (.ref b) := valV_pos rfl
theorem potC_s : valV (potC g s t b m c) (.inr s) = some (.int m) := (valV_neg (ne1 ok)).trans (valV_pos rfl)
theorem potC_t : valV (potC g s t b m c) (.inr t) = some (.int c) := (valV_neg (ne2 ok)).trans ((valV_neg (ne3 ok)).trans (valV_pos rfl))
theorem putC_s (x : Int) : putK (potC g s t b m c) (.inr s) (.int x) = potC g s t b x c := by
  have h1 := ne1 ok
  have h3 : ¬ ((.inr t : Key) = .inr s) := fun e => ne3 ok e.symm
  unfold putK
  rw [if_pos (by simp), List.map_cons, List.map_cons, List.map_cons, List.map_nil, if_neg h1, if_pos rfl, if_neg h3]
theorem putC_t (x : Int) : putK (potC g s t b m c) (.inr t) (.int x) = potC g s t b m x := by
  have h1 := ne2 ok
  have h3 := ne3 ok
  unfold putK
  rw [if_pos (by simp), List.map_cons, List.map_cons, List.map_cons, List.map_nil, if_neg h1, if_neg h3, if_pos rfl]
theorem mergeC : mergeK [] (potC g s t b m c) = potC g s t b m c := by
  have h1 := ne1 ok
  have h2 := ne2 ok
  have h3 := ne3 ok
  show putK (putK (putK [] (Sum.inr g : Key) (.ref b)) (Sum.inr s : Key) (.int m)) (Sum.inr t : Key) (.int c) = _
  have e1 : putK ([] : List (Key × V)) (.inr g) (.ref b) = [((Sum.inr g : Key), .ref b)] := rfl
  have e2 : putK [((Sum.inr g : Key), V.ref b)] (.inr s) (.int m) = [((Sum.inr g : Key), .ref b), (.inr s, .int m)] := by
    unfold putK
    rw [if_neg (by simp [ok.gs])]; rfl
  rw [e1, e2]
  unfold putK
  rw [if_neg (by simp [ok.gt, ok.st])]; rfl
end
def potK (g s t : Str) (n : Nat) : Res where
  rel := fun v H fp => ∃ (a b : Addr) (m c : Int) (cs : List Int), v = .ref a ∧ a ≠ b ∧ fp = Or2 (One a) (One b) ∧ H a = some (.dK (potC g s t b m c)) ∧ H b = some (.lst (cs.map V.int)) ∧ cs.length ≤ n
  stay := fun {v H H' fp} ⟨a, b, m, c, cs, e1, e2, e3, e4, e5, e6⟩ k => ⟨a, b, m, c, cs, e1, e2, e3, by rw [k a (by rw [e3]; exact .inl rfl)]; exact e4, by rw [k b (by rw [e3]; exact .inr rfl)]; exact e5, e6⟩
  dom := fun {v H fp} ⟨a, b, m, c, cs, e1, e2, e3, e4, e5, e6⟩ d hd => by
    rw [e3] at hd
    rcases hd with z | z
    · rw [show d = a from z, e4]; exact fun q => nomatch q
    · rw [show d = b from z, e5]; exact fun q => nomatch q
  nt := fun {v H fp} ⟨a, b, m, c, cs, e1, e2, e3, e4, e5, e6⟩ d hd xs => by
    rw [e3] at hd
    rcases hd with z | z
    · rw [show d = a from z, e4]; exact fun q => nomatch q
    · rw [show d = b from z, e5]; exact fun q => nomatch q
theorem potK_up {g s t : Str} {n n' : Nat} {v : V} {H : Hp} {fp : Addr → Prop} (h : n ≤ n') : (potK g s t n).rel v H fp → (potK g s t n').rel v H fp :=
  fun ⟨a, b, m, c, cs, e1, e2, e3, e4, e5, e6⟩ => ⟨a, b, m, c, cs, e1, e2, e3, e4, e5, Nat.le_trans e6 h⟩
/-- the display -/
def wDeck (g s t : Str) (ws : WNs) : WE := fun Z ρ Q => ws Z ρ fun ns ρ1 => match ns with
  | [.lst ds, .dat (.int _), .dat (.int _)] => ∃ n, (intsD ds fun cs => cs.length ≤ n) ∧ Q (.res (potK g s t n)) ρ1
  | _ => False
theorem deck_m {A : List PyData → Prop} {ns : List N} (h : match ns with
  | [.lst ds, .dat (.int _), .dat (.int _)] => A ds
  | _ => False) : ∃ ds m c, ns = [.lst ds, .dat (.int m), .dat (.int c)] ∧ A ds := by
  split at h
  · exact ⟨_, _, _, rfl, h⟩
  · exact h.elim
section
variable {X : Cx} {E : EX} {g s t : Str} {e1 e2 e3 : Expr} {w1 w2 w3 : WE} {pos q1 q2 q3 : Pos} {j1 j2 j3 : Nat}
theorem deck_road (ok : PotOk g s t) : ∀ σ H Q, rd X.K X.mg E (wDeck g s t (nsCons w1 (nsCons w2 (nsCons w3 nsNil)))) σ H Q → tDisp [(tC (.str g), rd X.K X.mg E w1), (tC (.str s), rd X.K X.mg E w2), (tC (.str t), rd X.K X.mg E w3)] σ H Q := by
    intro σ H Q ⟨ρ, F, fps, Z, Qd, st, hw, zc, k⟩
    intro p hp
    obtain ⟨tr0, wf0, rs0, ap0⟩ := own_tr (o := .dK []) st hp
    have gs : GotS X.K ρ σ F H fps ρ σ F (upd H p (.dK [])) fps := ⟨tr0.less fun _ h => .inl h, ⟨wf0.less fun _ h => .inl h, rs0⟩, .refl⟩
    have np : ¬ Ow fps p := fun z => ap0 p rfl z
    have hP : upd H p (.dK []) p = some (.dK []) := upd_same
    have zc := zc.step gs
    have gst := gs.st
    generalize hH : upd H p (.dK []) = H0 at gs hP zc gst
    show rd X.K X.mg E w1 σ H0 fun y1 H1 => rd X.K X.mg E w2 σ H1 fun y2 H2 => rd X.K X.mg E w3 σ H2 fun y3 H3 => H3 p = some (.dK []) ∧ ∃ kvs : List (Key × V), [(V.str g, y1), (V.str s, y2), (V.str t, y3)] = kvs.map (fun kv => (kV kv.1, kv.2)) ∧ kvs.length ≤ 15 ∧ Q (.ref p) (upd H3 p (.dK (mergeK [] kvs)))
    refine ⟨ρ, F, fps, Z, _, gst, hw, zc, fun x1 v1 ρ1 F1 H1 fps1 f1 g1 hq1 => ?_⟩
    refine ⟨ρ1, F1, fps1, Z, _, g1.st, hq1, zc.step g1.s, fun x2 v2 ρ2 F2 H2 fps2 f2 g2 hq2 => ?_⟩
    refine ⟨ρ2, F2, fps2, Z, _, g2.st, hq2, (zc.step g1.s).step g2.s, fun x3 v3 ρ3 F3 H3 fps3 f3 g3 hq3 => ?_⟩
    have gg : GotL X.K ρ σ F H0 fps [(x1, v1, f1), (x2, v2, f2), (x3, v3, f3)] ρ3 σ F3 H3 fps3 := .cons g1 (.cons g2 (.cons g3 (.nil (.refl g3.st))))
    obtain ⟨ds, m, c, ex, hq3⟩ := deck_m hq3
    injection ex with ex1 ex
    injection ex with ex2 ex
    injection ex with ex3 ex
    subst ex1 ex2 ex3
    obtain ⟨n, ⟨cs, rfl, hl⟩, hq⟩ := hq3
    obtain ⟨b, vs, e1, e2, e3, dq⟩ := gg.rn _ List.mem_cons_self
    obtain ⟨e4, d2⟩ := gg.rn (.dat (.int m), v2, f2) (by simp)
    obtain ⟨e5, d3⟩ := gg.rn (.dat (.int c), v3, f3) (by simp)
    have ev := dq.ints
    subst ev
    cases e1
    cases d2
    cases d3
    have h3 : H3 p = some (.dK []) := gg.tr.keep p _ hP np
    have ob : One b = f1 := e2.symm
    have np3 : ∀ {x : Addr}, Or2 (Ow fps3) (OwL [(DL.N.lst (cs.map .int), V.ref b, f1), (.dat (.int m), .int m, f2), (.dat (.int c), .int c, f3)]) x → x ≠ p := fun {x} hx z => by
      subst z
      rcases gg.tr.sub x hx with z | z
      · exact np z
      · rw [hP] at z; cases z
    have fp3 : F3 p = none := by
      cases e : F3 p with
      | none => rfl
      | some o =>
        rcases gg.tr.new p (by cases e0 : F p with | none => rfl | some o0 => (rw [gst.wf.sub p o0 e0] at hP; have := st.wf.sub p o0 e0; rw [hp] at this; cases this)) (by rw [e]; exact fun q => nomatch q) with z | z | ⟨xs, z⟩
        · exact absurd z np
        · rw [hP] at z; cases z
        · rw [hP] at z; cases z
    have hb : b ≠ p := np3 (.inr (.inl (by show f1 b; rw [← ob]; rfl)))
    have tt := gs.tr.trans gg.tr
    refine ⟨h3, potC g s t b m c, rfl, (by show 3 ≤ 15; decide), ?_⟩
    rw [mergeC ok]
    have o1 : ∀ {x : Addr}, Or2 (One p) (One b) x → x = p ∨ (Or2 (Ow fps3) (OwL [(DL.N.lst (cs.map .int), V.ref b, f1), (.dat (.int m), .int m, f2), (.dat (.int c), .int c, f3)]) x) := fun {x} hx => hx.elim .inl fun z => .inr (.inr (.inl (by show f1 x; rw [← ob]; exact z)))
    refine k (.res (potK g s t n)) (.ref p) ρ3 F3 (upd H3 p (.dK (potC g s t b m c))) fps3 (Or2 (One p) (One b)) ?_ hq
    refine ⟨⟨tt.grow, tt.new, fun x o e no => ?_, fun x z => ?_⟩, ⟨fun x o e => ?_, fun x z => ?_, fun x z => ?_⟩, gg.rs.stay (.refl _) fun x hx => upd_ne (np3 (.inl hx)), gg.pk, ⟨p, b, m, c, cs, rfl, Ne.symm hb, rfl, upd_same, by rw [upd_ne hb]; exact e3, hl⟩, fun x hx z => ?_⟩
    · rw [upd_ne (ne_of_none e hp)]; exact tt.keep x o e no
    · rcases z with z | z
      · exact tt.sub x (.inl z)
      · rcases o1 z with z | z
        · subst z; exact .inr hp
        · exact tt.sub x z
    · have hx : x ≠ p := fun q => by rw [q, fp3] at e; cases e
      rw [upd_ne hx]; exact gg.wf.sub x o e
    · rcases z with z | z
      · exact gg.wf.out x (.inl z)
      · rcases o1 z with z | z
        · rw [z]; exact fp3
        · exact gg.wf.out x z
    · by_cases hx : x = p
      · rw [hx, upd_same]; exact fun q => nomatch q
      · rw [upd_ne hx]
        rcases z with z | z
        · exact gg.wf.dom x (.inl z)
        · rcases o1 z with z | z
          · exact absurd z hx
          · exact gg.wf.dom x z
    · rcases o1 hx with e | e
      · exact np3 (.inl z) e
      · rcases hx with hx | hx
        · exact np3 (.inl z) hx
        · exact gg.ap x (.inl (by show f1 x; rw [← ob]; exact hx)) z
theorem d_deck (ok : PotOk g s t) (h1 : PE X e1 (rd X.K X.mg E w1)) (h2 : PE X e2 (rd X.K X.mg E w2)) (h3 : PE X e3 (rd X.K X.mg E w3)) :
    PE X (.Dict [some (.Constant (.str g) j1 q1), some (.Constant (.str s) j2 q2), some (.Constant (.str t) j3 q3)] [e1, e2, e3] pos) (rd X.K X.mg E (wDeck g s t (nsCons w1 (nsCons w2 (nsCons w3 nsNil))))) :=
  pe_imp (pe_disp (pps_cons pe_str h1 (pps_cons pe_str h2 (pps_cons pe_str h3 pps_nil))) rfl rfl (by simp) (by simp)) (deck_road ok)
end
end DL

/-! a pot that is a dict: reads, stores, append; the draws -/
namespace DL
open PySem PySem.Spec PyProof.Rows L2
theorem Sta.resSet {K : PySem.W.Frag} {F H H' : Hp} {ρ : En} {σ : Sg} {fps : Nat → Addr → Prop} {i : Nat} {r r' : Res} {v : V} (s : Sta K F H ρ σ fps) (h : ρ[i]? = some (.v (.res r))) (hv : σ[i]? = some (some v)) (e : ∀ x, ¬ fps i x → H' x = H x) (rel : r'.rel v H' (fps i)) : GotS K ρ σ F H fps (ρ.set i (.v (.res r'))) σ F H' fps := by
  have hi : i < ρ.length := (List.getElem?_eq_some_iff.mp h).1
  have off : ∀ {b : Addr}, ¬ Ow fps b → H' b = H b := fun {b} no => e b fun z => no ⟨i, z⟩
  refine ⟨⟨.refl _, fun b h h' => absurd h h', fun b o q no => by rw [off no]; exact q, fun b z => .inl z⟩, ⟨⟨fun b o q => ?_, s.wf.out, fun b ⟨j, z⟩ => ?_⟩, ⟨by rw [List.length_set]; exact s.rs.len, fun j n q => ?_, fun j h1 h2 => ?_, s.rs.dis⟩⟩, fun j n q => ?_⟩
  · rw [off fun z => by rw [s.wf.out b z] at q; cases q]; exact s.wf.sub b o q
  · by_cases ej : j = i
    · subst ej; exact r'.dom rel b z
    · rw [e b fun z2 => s.rs.dis j i b ej z z2]; exact s.wf.dom b ⟨j, z⟩
  · by_cases ej : j = i
    · subst ej
      rw [List.getElem?_set_self hi] at q
      rcases q with q | q
      · cases q; exact ⟨v, hv, rel⟩
      · cases q
    · rw [List.getElem?_set_ne (Ne.symm ej)] at q
      obtain ⟨u, h1, h2⟩ := s.rs.rel j n q
      exact ⟨u, h1, h2.stay (.refl _) fun a ha => e a fun z2 => s.rs.dis j i a ej ha z2⟩
  · by_cases ej : j = i
    · subst ej
      exact absurd (List.getElem?_set_self hi) (h1 _)
    · refine s.rs.emp j (fun n => ?_) fun n => ?_
      · have := h1 n; rw [List.getElem?_set_ne (Ne.symm ej)] at this; exact this
      · have := h2 n; rw [List.getElem?_set_ne (Ne.symm ej)] at this; exact this
  · by_cases ej : j = i
    · subst ej; rw [h] at q; cases q
    · rw [List.getElem?_set_ne (Ne.symm ej)]; exact ⟨⟨n, q⟩, rfl⟩
def wPg (g s t : Str) (i : Nat) : WE := fun _ ρ Q => (∃ n, ρ[i]? = some (.v (.res (potK g s t n)))) ∧ ∀ m : Int, Q (.dat (.int m)) ρ
def gPg (g s t : Str) (i : Nat) : WG := fun d ρ Q => (∃ j, d = .int j) ∧ ∃ n n', n ≤ n' ∧ ρ[i]? = some (.v (.res (potK g s t n))) ∧ Q (ρ.set i (.v (.res (potK g s t n'))))
def wPga (g s t : Str) (i j : Nat) : WE := fun _ ρ Q => (∃ x, ρ[j]? = some (.v (.dat (.int x)))) ∧ ∃ n, ρ[i]? = some (.v (.res (potK g s t n))) ∧ n < 1000 ∧ Q (.dat .none) (ρ.set i (.v (.res (potK g s t (n + 1)))))
theorem dget_s {g s t : Str} {H : Hp} {a b : Addr} {m c : Int} (ok : PotOk g s t) (h : H a = some (.dK (potC g s t b m c))) : DGet H a (.str s) (some (.int m)) := by
  have := DGet.k (k := .inr s) h
  rw [potC_s ok] at this
  exact this
theorem dget_t {g s t : Str} {H : Hp} {a b : Addr} {m c : Int} (ok : PotOk g s t) (h : H a = some (.dK (potC g s t b m c))) : DGet H a (.str t) (some (.int c)) := by
  have := DGet.k (k := .inr t) h
  rw [potC_t ok] at this
  exact this
theorem dget_g {g s t : Str} {H : Hp} {a b : Addr} {m c : Int} (ok : PotOk g s t) (h : H a = some (.dK (potC g s t b m c))) : DGet H a (.str g) (some (.ref b)) := by
  have := DGet.k (k := .inr g) h
  rw [potC_g ok] at this
  exact this
theorem dput_s {g s t : Str} {H : Hp} {a b : Addr} {m c : Int} (x : Int) (ok : PotOk g s t) (h : H a = some (.dK (potC g s t b m c))) : DPut H a (.str s) (.int x) (upd H a (.dK (potC g s t b x c))) := by
  have := DPut.k (k := .inr s) (v := .int x) h (by show 3 < sizeLine; decide)
  rw [putC_s ok] at this
  exact this
theorem dput_t {g s t : Str} {H : Hp} {a b : Addr} {m c : Int} (x : Int) (ok : PotOk g s t) (h : H a = some (.dK (potC g s t b m c))) : DPut H a (.str t) (.int x) (upd H a (.dK (potC g s t b m x))) := by
  have := DPut.k (k := .inr t) (v := .int x) h (by show 3 < sizeLine; decide)
  rw [putC_t ok] at this
  exact this
section
variable {X : Cx} {E : EX} {g s t x y : Str} {i j : Nat} {p q pos p2 apos cpos : Pos} {jj : Nat}
theorem d_pgS (hu : X.A.units + 1 < cLine) (ok : PotOk g s t) (ho : PE X (.Name x p) (tVar i)) : PE X (.Subscript (.Name x p) (.Constant (.str s) jj q) pos) (rd X.K X.mg E (wPg g s t i)) :=
  pe_imp (pe_ix (ix_dct hu) ho pe_str (by intro _ _; rfl)) fun σ H Q ⟨ρ, F, fps, Z, Qd, st, hw, zc, k⟩ => by
    obtain ⟨⟨n, e⟩, hw⟩ := hw
    obtain ⟨v, hv, rn⟩ := st.rs.rel i _ (.inl e)
    obtain ⟨a, b, m, c, cs, rfl, hab, hf, ha, hb, hc⟩ := rn
    exact ⟨.ref a, hv, a, .int m, rfl, dget_s ok ha, k _ _ _ _ _ _ _ (.here st (.int m)) (hw m)⟩
theorem g_pgS {is : List Nat} (hu : X.A.units + 1 < cLine) (ok : PotOk g s t) (ho : PE X (.Name x p) (tVar i))
    (ha : ∀ v, assign (.Subscript (.Name x p) (.Constant (.str s) jj q) pos) X.env v = (do
      let ov ← holding [v] (eval (.Name x p) X.env)
      let iv ← holding [v, ov] (eval (.Constant (.str s) jj q) X.env)
      standAt pos
      holding [v, ov, iv] (setItem ov iv v)
      release [v, ov, iv] []) := by intro _; rfl) : PG X (.Subscript (.Name x p) (.Constant (.str s) jj q) pos) (rg X.K is (gPg g s t i)) :=
  pg_imp (pg_sub ho pe_str (set_dict hu) ha) fun v σ H Q ⟨ρ, F, fps, d, Qd, st, dq, hw, k⟩ => by
    obtain ⟨⟨z, rfl⟩, n, n', hn, e, hw⟩ := hw
    obtain ⟨u, hv, rn⟩ := st.rs.rel i _ (.inl e)
    obtain ⟨a, b, m, c, cs, rfl, hab, hf, ha, hb, hc⟩ := rn
    have dq : Dq X.K F v (.int z) := dq
    obtain rfl : v = .int z := by cases dq; rfl
    refine ⟨.ref a, hv, a, _, rfl, dput_s z ok ha, ?_⟩
    refine k _ _ _ _ _ (st.resSet (r' := potK g s t n') e hv (fun w hw => ?_) ?_) ⟨rfl, fun _ _ => rfl⟩ hw
    · rw [hf] at hw
      exact upd_ne fun z => hw (.inl z)
    · exact ⟨a, b, z, c, cs, rfl, hab, hf, upd_same, by rw [upd_ne (Ne.symm hab)]; exact hb, Nat.le_trans hc hn⟩
theorem d_pga (hu : X.A.units + 1 < cLine) (ok : PotOk g s t) (ho : PE X (.Name x p) (tVar i)) (hy : PE X (.Name y p2) (tVar j))
    (hbase : attributeBase (.Subscript (.Name x p) (.Constant (.str g) jj q) pos) (Str.ofString "append") X.env (eval (.Subscript (.Name x p) (.Constant (.str g) jj q) pos) X.env) = eval (.Subscript (.Name x p) (.Constant (.str g) jj q) pos) X.env := by rfl)
    (hfew : ((backTo cpos (starEach [.Name y p2] X.env)).all (fun x => !x.1) && (backToKw cpos (keywordEach [] X.env)).all (fun x => x.1.isSome)
      && decide (([.Name y p2] : List Expr).length + ([] : List Keyword).length + (if ([] : List Keyword).isEmpty then 0 else 1) < 30)) = true := by rfl)
    (hline : (apos.endLine == cpos.line) = true := by rfl) (hs : starEach [.Name y p2] X.env = (false, eval (.Name y p2) X.env) :: starEach [] X.env := by rfl) (hplain : (backTo cpos (starEach [] X.env)).any (·.1) = false := by rfl) :
    PE X (.Call (.Attribute (.Subscript (.Name x p) (.Constant (.str g) jj q) pos) (Str.ofString "append") apos) [.Name y p2] [] cpos) (rd X.K X.mg E (wPga g s t i j)) :=
  pe_imp (pe_bm PySem.F.plainAttrs_list PySem.F.slot_list_append PySem.F.type_list_append mt_append (pe_ix (ix_dct hu) ho pe_str (by intro _ _; rfl)) (pa_cons hy pa_nil hs) hbase hfew hline hs hplain) fun σ H Q ⟨ρ, F, fps, Z, Qd, st, hw, zc, k⟩ => by
    obtain ⟨⟨z, ez⟩, n, e, hn, hw⟩ := hw
    obtain ⟨u, hv, rn⟩ := st.rs.rel i _ (.inl e)
    obtain ⟨a, b, m, c, cs, rfl, hab, hf, ha, hb, hc⟩ := rn
    obtain ⟨u2, hv2, _, d2⟩ := st.rs.rel j _ (.inl ez)
    have d2 : Dq X.K F u2 (.int z) := d2
    obtain rfl : u2 = .int z := by cases d2; rfl
    have gs := st.resSet (r' := potK g s t (n + 1)) (H' := upd H b (.lst (cs.map V.int ++ [V.int z]))) e hv (fun w hw => by rw [hf] at hw; exact upd_ne fun z => hw (.inr z)) ⟨a, b, m, c, cs ++ [z], rfl, hab, hf, by rw [upd_ne hab]; exact ha, by rw [upd_same, List.map_append]; rfl, by rw [List.length_append]; simp only [List.length_cons, List.length_nil]; omega⟩
    exact ⟨.ref a, hv, a, .ref b, rfl, dget_g ok ha, .inl ⟨rfl, _, SqL.of hb⟩, .int z, hv2, b, _, _, rfl, rfl, hb, by rw [List.length_map]; exact Nat.lt_of_le_of_lt hc (by unfold sizeLine; omega), k _ _ _ _ _ _ _ (.of gs .non) hw⟩
end
end DL

/-! the draw from a deck -/
namespace DL
open PySem PySem.Spec PyProof.Rows L2
abbrev rI1 : List V → Hp → VK → Prop := fun xs H Q => (∃ i, xs = [.int i] ∧ Q (.int i) H) ∨ ∃ k, xs = [.bl k] ∧ Q (.int (if k then 1 else 0)) H
abbrev tIxK (k : Str) : TE := tOp rIxDc (tVar 0) (tC (.str k))
abbrev tInt (te : TE) : TE := tCB rI1 (tCons te tNil)
def tDeck (K : PySem.W.Frag) (g s t : Str) : TS :=
  tSeq (tIfS (tTest (tOp iLt (tVar 1) (vI 2))) (tRet (vI 0)) tNext)
  (tSeq (tIfS (tTest (tOp (rNeD K) (tIxK g) (tLst tNil)))
    (tSeq (tAsg (tBM0 K "list" rPop (tIxK g)) (gName 2))
      (tSeq (tIfS (tTest (tOp iGe (tVar 2) (tVar 1))) (tDrop (tBM K "list" rAppend (tIxK g) (tCons (tOp iDiv (tVar 2) (tVar 1)) tNil))) tNext)
        (tRet (tOp iMod (tInt (tVar 2)) (tVar 1))))) tNext)
  (tSeq (tAsg (tOp iAdd (tIxK t) (vI 1)) (gSub (tVar 0) (tC (.str t)) rSetD))
  (tSeq (tAsg (tOp iMod (tInt (tOp iAdd (tIxK s) (tOp iMul (vI 2654435761) (tIxK t)))) (vI 4294967279)) (gName 3))
  (tSeq (tAsg (tOp iMod (tInt (tOp iAdd (tOp iAdd (tOp iMul (tVar 3) (tVar 3)) (tOp iMul (vI 40692) (tIxK t))) (vI 23))) (vI 4294967231)) (gName 3))
  (tSeq (tAsg (tOp iMod (tInt (tOp iAdd (tOp iMul (tVar 3) (tVar 3)) (tOp iMul (tIxK s) (vI 11)))) (vI 4294967197)) (gName 3))
  (tRet (tOp iMod (tInt (tOp iDiv (tVar 3) (vI 64))) (tVar 1))))))))
section
variable {K : PySem.W.Frag} {mg : Str → Option Value} {g s t : Str}
theorem ixg {H : Hp} {a b : Addr} {m c : Int} {Q : VK} (ok : PotOk g s t) (h : H a = some (.dK (potC g s t b m c))) (q : Q (.ref b) H) : rIxDc (.ref a) (.str g) H Q := ⟨a, _, rfl, dget_g ok h, q⟩
theorem ixs {H : Hp} {a b : Addr} {m c : Int} {Q : VK} (ok : PotOk g s t) (h : H a = some (.dK (potC g s t b m c))) (q : Q (.int m) H) : rIxDc (.ref a) (.str s) H Q := ⟨a, _, rfl, dget_s ok h, q⟩
theorem ixt {H : Hp} {a b : Addr} {m c : Int} {Q : VK} (ok : PotOk g s t) (h : H a = some (.dK (potC g s t b m c))) (q : Q (.int c) H) : rIxDc (.ref a) (.str t) H Q := ⟨a, _, rfl, dget_t ok h, q⟩
theorem deck_spec {x0 x1 x2 x3 : Str} {vs : List V} {H : Hp} {Q : VK} {E : XK} (ok : PotOk g s t) (h : toSp K mg 2 (dspDraw (potK g s t 63)) vs H Q E) : tDeck K g s t { nx := fun _ H' => Q .non H', rt := Q } (L2.start [x0, x1, x2, x3] vs) H := by
  obtain ⟨hl, args, F, fps, R, Z, sta, ⟨many, rfl, hm, hr⟩, q, _⟩ := h
  obtain ⟨v0, v1, rfl⟩ : ∃ v0 v1, vs = [v0, v1] := by
    match vs, hl with
    | [v0, v1], _ => exact ⟨v0, v1, rfl⟩
  obtain ⟨u0, e0, a, b, m, c, cs, rfl, hab, hf, ha, hb, hc⟩ := sta.rs.rel 0 _ (.inr rfl)
  obtain ⟨u1, e1, _, d1⟩ := sta.rs.rel 1 _ (.inl rfl)
  cases e0
  cases e1
  cases d1
  have fin : ∀ {H' : Hp} {r : Int}, (∀ x, ¬ Or2 (One a) (One b) x → H' x = H x) → (potK g s t 63).rel (.ref a) H' (Or2 (One a) (One b)) → Drawn many r → Q (.int r) H' := fun {H' r} e rel dr =>
    q _ _ _ _ _ _ _ _ (Got.of (sta.res (i := 0) (v := .ref a) rfl rfl (by rw [hf]; exact e) (by rw [hf]; exact rel)) (.int r)) (hr r dr)
  have same : (potK g s t 63).rel (.ref a) H (Or2 (One a) (One b)) := ⟨a, b, m, c, cs, rfl, hab, rfl, ha, hb, hc⟩
  show tDeck K g s t _ [some (.ref a), some (.int many), none, none] H
  refine ⟨.int many, rfl, many, 2, rfl, rfl, _, rfl, ?_⟩
  by_cases h2 : many < 2
  · rw [decide_eq_true h2]
    exact iteT (fin (fun _ _ => rfl) same ⟨by decide, by omega⟩)
  rw [decide_eq_false h2]
  refine iteF ?_
  refine ⟨.ref a, rfl, a, _, rfl, dget_g ok ha, ⟨Nat.zero_le _, fun p hp => ?_⟩⟩
  have hpb : b ≠ p := ne_of_none hb hp
  have hpa : a ≠ p := ne_of_none ha hp
  refine ⟨upd H p (.lst []), .list (cs.map .int), .list [], .refl _, .lst (by rw [upd_ne hpb]; exact hb) (DqAll.of_ints cs), .lst upd_same .nil, shaped_list cs, rfl, _, rfl, ?_⟩
  rw [eqv_nil]
  have g1 := sta.alloc (o := HO.lst []) hp
  have ha1 : upd H p (.lst []) a = some (.dK (potC g s t b m c)) := by rw [upd_ne hpa]; exact ha
  have hb1 : upd H p (.lst []) b = some (.lst (cs.map V.int)) := by rw [upd_ne hpb]; exact hb
  generalize upd H p (.lst []) = H1 at g1 ha1 hb1
  have fin1 : ∀ {H' : Hp} {r : Int}, (∀ x, ¬ Or2 (One a) (One b) x → H' x = H1 x) → (potK g s t 63).rel (.ref a) H' (Or2 (One a) (One b)) → Drawn many r → Q (.int r) H' := fun {H' r} e rel dr =>
    q _ _ _ _ _ _ _ _ (Got.of (g1.trans (g1.st.res (i := 0) (v := .ref a) rfl rfl (by rw [hf]; exact e) (by rw [hf]; exact rel))) (.int r)) (hr r dr)
  have mod : ∀ n : Int, Drawn many (n % many) := fun n => ⟨Int.emod_nonneg n (by omega), .inl (Int.emod_lt_of_pos n (by omega))⟩
  cases cs with
  | nil =>
    refine iteF ?_
    refine ⟨.ref a, rfl, a, _, rfl, dget_t ok ha1, ⟨c, 1, rfl, rfl, .ref a, rfl, a, _, rfl, dput_t (c + 1) ok ha1, ?_⟩⟩
    have ha2 : upd H1 a (.dK (potC g s t b m (c + 1))) a = some (.dK (potC g s t b m (c + 1))) := upd_same
    have rel2 : (potK g s t 63).rel (.ref a) (upd H1 a (.dK (potC g s t b m (c + 1)))) (Or2 (One a) (One b)) := ⟨a, b, m, c + 1, [], rfl, hab, rfl, ha2, by rw [upd_ne (Ne.symm hab)]; exact hb1, hc⟩
    have off2 : ∀ x, ¬ Or2 (One a) (One b) x → upd H1 a (.dK (potC g s t b m (c + 1))) x = H1 x := fun x hx => upd_ne fun z => hx (.inl z)
    show tSeq _ _ _ _ (upd H1 a (.dK (potC g s t b m (c + 1))))
    generalize upd H1 a (.dK (potC g s t b m (c + 1))) = H2 at ha2 rel2 off2
    refine ⟨.ref a, rfl, a, _, rfl, dget_s ok ha2, ⟨.ref a, rfl, a, _, rfl, dget_t ok ha2, ⟨2654435761, c + 1, rfl, rfl, .inl ⟨by decide, by decide⟩, m, _, rfl, rfl, .inl ⟨_, rfl, _, 4294967279, rfl, rfl, (by show (0 : Int) < 4294967279; decide), ?_⟩⟩⟩⟩
    show tSeq _ _ _ [some (.ref a), some (.int many), none, some (.int ((m + 2654435761 * (c + 1)) % 4294967279))] H2
    have b1 := mod_small (i := m + 2654435761 * (c + 1)) (m := 4294967279) (by decide) (by decide)
    generalize (m + 2654435761 * (c + 1)) % 4294967279 = n1 at b1
    refine ⟨.int n1, rfl, .int n1, rfl, n1, n1, rfl, rfl, .inl b1, .ref a, rfl, a, _, rfl, dget_t ok ha2, ⟨40692, c + 1, rfl, rfl, .inl ⟨by decide, by decide⟩, _, _, rfl, rfl, _, 23, rfl, rfl, .inl ⟨_, rfl, _, 4294967231, rfl, rfl, (by show (0 : Int) < 4294967231; decide), ?_⟩⟩⟩
    show tSeq _ _ _ [some (.ref a), some (.int many), none, some (.int ((n1 * n1 + 40692 * (c + 1) + 23) % 4294967231))] H2
    have b2 := mod_small (i := n1 * n1 + 40692 * (c + 1) + 23) (m := 4294967231) (by decide) (by decide)
    generalize (n1 * n1 + 40692 * (c + 1) + 23) % 4294967231 = n2 at b2
    refine ⟨.int n2, rfl, .int n2, rfl, n2, n2, rfl, rfl, .inl b2, .ref a, rfl, a, _, rfl, dget_s ok ha2, ⟨m, 11, rfl, rfl, .inr ⟨by decide, by decide⟩, _, _, rfl, rfl, .inl ⟨_, rfl, _, 4294967197, rfl, rfl, (by show (0 : Int) < 4294967197; decide), ?_⟩⟩⟩
    refine ⟨_, rfl, _, 64, rfl, rfl, ⟨by decide, by decide⟩, .inl ⟨_, rfl, .int many, rfl, _, many, rfl, rfl, by omega, ?_⟩⟩
    exact fin1 off2 rel2 (mod _)
  | cons c0 cs0 =>
    refine iteT ?_
    have hl : ((c0 :: cs0).map V.int).length = cs0.length + 1 := by simp
    have hlast : ((c0 :: cs0).map V.int)[((c0 :: cs0).map V.int).length - 1]? = some (.int ((c0 :: cs0).getLast (List.cons_ne_nil _ _))) := by
      rw [← List.getLast?_eq_getElem?, List.getLast?_map, List.getLast?_eq_getLast (List.cons_ne_nil c0 cs0)]; rfl
    refine ⟨.ref a, rfl, a, _, rfl, dget_g ok ha1, ⟨.inl ⟨rfl, _, SqL.of hb1⟩, b, _, _, rfl, rfl, hb1, hlast, ?_⟩⟩
    generalize (c0 :: cs0).getLast (List.cons_ne_nil _ _) = cell
    have ed : ((c0 :: cs0).map V.int).dropLast = (c0 :: cs0).dropLast.map V.int := by rw [List.map_dropLast]
    have hl2 : (c0 :: cs0).dropLast.length ≤ 62 := by rw [List.length_dropLast]; simp only [List.length_cons] at hc ⊢; omega
    rw [ed]
    generalize (c0 :: cs0).dropLast = cs at hl2
    have hb2 : upd H1 b (.lst (cs.map V.int)) b = some (.lst (cs.map V.int)) := upd_same
    have ha2 : upd H1 b (.lst (cs.map V.int)) a = some (.dK (potC g s t b m c)) := by rw [upd_ne hab]; exact ha1
    have off2 : ∀ x, ¬ Or2 (One a) (One b) x → upd H1 b (.lst (cs.map V.int)) x = H1 x := fun x hx => upd_ne fun z => hx (.inr z)
    show tSeq _ _ _ _ (upd H1 b (.lst (cs.map V.int)))
    generalize upd H1 b (.lst (cs.map V.int)) = H2 at ha2 hb2 off2
    refine ⟨.int cell, rfl, .int many, rfl, cell, many, rfl, rfl, _, rfl, ?_⟩
    by_cases hge : many ≤ cell
    · rw [decide_eq_true hge]
      refine iteT ⟨.ref a, rfl, a, _, rfl, dget_g ok ha2, ⟨.inl ⟨rfl, _, SqL.of hb2⟩, .int cell, rfl, .int many, rfl, cell, many, rfl, rfl, ⟨by omega, hm⟩, b, _, _, rfl, rfl, hb2, ?_, ?_⟩⟩
      · rw [List.length_map]; exact Nat.lt_of_le_of_lt hl2 (by decide)
      · refine ⟨.int cell, rfl, .inl ⟨_, rfl, .int many, rfl, cell, many, rfl, rfl, by omega, ?_⟩⟩
        refine fin1 (fun x hx => ?_) ⟨a, b, m, c, cs ++ [cell / many], rfl, hab, rfl, by rw [upd_ne hab]; exact ha2, by rw [upd_same, List.map_append]; rfl, by rw [List.length_append]; simp only [List.length_cons, List.length_nil]; omega⟩ (mod _)
        rw [upd_ne fun z => hx (.inr z)]; exact off2 x hx
    · rw [decide_eq_false hge]
      refine iteF ⟨.int cell, rfl, .inl ⟨_, rfl, .int many, rfl, cell, many, rfl, rfl, by omega, ?_⟩⟩
      exact fin1 off2 ⟨a, b, m, c, cs, rfl, hab, rfl, ha2, hb2, by omega⟩ (mod _)
end
end DL

/-! sorted(dict(pairs)) -/
namespace DL
open PySem PySem.Spec PyProof.Rows L2
open PySem.Calls PySem.W in
theorem sorted_dct {β : Type} {enc : β → PyData} {bs : List β} {R : Value → β → Prop} {prog : Program} {w : World} {A : Around} {E : Value → Shared → Prop} {s : Shared} {d : Addr} {es : Array DictEntry} {ep : Nat} {Q : Value → Shared → Prop} (hh : A.handled = none) (lo : (d == sysModules) = false) (hm : s.heap.DictRaw d es ep) (hn : es.size ≤ sizeLine)
    (e : EachIs R (es.toList.map (·.key)) bs) (er : EachIs (fun v b => ∃ as, Reads s.heap v (enc b) as) (es.toList.map (·.key)) bs) (hal : AllAlike (bs.map enc)) (hk : Sortable (bs.map enc)) (hu : ∀ b, b ∈ bs → A.units + 2 + (enc b).depth < cLine)
    (h : ∀ (h' : Heap) (tk : Nat) (r : Addr) (out : List Value) (n : Nat), (∀ b o, s.heap.get? b = some o → h'.get? b = some o) → d < r → h'.get? r = some (seqObj "list" out.toArray n) → EachIs R out (bs.mergeSort (dataLe false enc)) → Q (.ref r) { s with heap := h', toks := tk }) :
    wpAny (model prog w) A (PySem.call (.builtin "sorted") [.ref d] []) Q E s := by
  refine call_function_entry_kw kind_sorted plain_sorted entry_sorted (args_sorted1 _) ?_
  unfold Builtin.«sorted»
  refine wpAny_bind (m := checkCount "sorted" 1 1 _) (wpAny_pure ?_)
  refine wpAny_bind (kdu_collect (A := A.in1) (KdlSrc.rawDict lo) hh hm hn fun h' tk acc hk' hacc => ?_)
  have hv : acc.toList = es.toList.map (·.key) := by
    refine List.ext_getElem? fun j => ?_
    rw [Array.getElem?_toList, List.getElem?_map, Array.getElem?_toList]
    cases hj : acc[j]? with
    | none =>
      have : es.size ≤ j := by rw [← hacc.1]; exact Array.getElem?_eq_none_iff.mp hj
      rw [Array.getElem?_eq_none this]; rfl
    | some v =>
      obtain ⟨hi, rfl⟩ := hacc.2 j v hj
      rw [Array.getElem?_eq_getElem hi]; rfl
  generalize hvs : acc.toList = vs at hv
  rw [← hv] at e er
  have hL : vs.length ≤ sizeLine := by rw [hv, List.length_map, Array.length_toList]; exact hn
  have hsz : d < h'.objs.size := by
    obtain ⟨o, ho, _⟩ := hm
    exact Heap.lt_size (hk' d o ho)
  refine wpAny_bind (wpAny_newList ?_ hL)
  have ho : (h'.push (seqObj "list" vs.toArray 0)).get? h'.objs.size = some (seqObj "list" vs.toArray 0) := Heap.get?_push_size _ rfl
  have old : ∀ {b : Addr} {o : Obj}, s.heap.get? b = some o → (sortingHeap (h'.push (seqObj "list" vs.toArray 0)) h'.objs.size vs).get? b = some o := fun {b o} q =>
    sortingHeap_old (Nat.ne_of_lt (Heap.lt_size (hk' b o q))) (Heap.get?_push_of_some _ (hk' b o q))
  have er' : EachIs (fun v b => ∃ as, Reads (sortingHeap (h'.push (seqObj "list" vs.toArray 0)) h'.objs.size vs) v (enc b) as) vs bs := er.mono fun _ _ ⟨as, r⟩ => ⟨as, PyProof.Rows.Reads.keeps (fun _ _ => old) r⟩
  have S := SortsAt.data (prog := prog) (w := w) (A := A.in1.in1) (s := { s with heap := sortingHeap (h'.push (seqObj "list" vs.toArray 0)) h'.objs.size vs, toks := tk }) (each_map (R := fun v d => ∃ as, Reads (sortingHeap (h'.push (seqObj "list" vs.toArray 0)) h'.objs.size vs) v d as) enc er') hal hk (bound_map hu)
  refine wpAny_bind (wpAny_holding (wpAny_call_entry_kw slot_list_sort ⟨_, ho, rfl⟩ entry_list_sort ?body (args_list_sort _)))
  case body =>
    show wpAny (model prog w) A.in1.in1 (Builtin.«list.sort» ⟨[.ref h'.objs.size], []⟩) _ _ { s with heap := h'.push (seqObj "list" vs.toArray 0), toks := tk }
    refine list_sort_vals (s := { s with heap := h'.push (seqObj "list" vs.toArray 0), toks := tk }) (n := 0) ho S hL ⟨_, rfl, wpAny_pure ⟨_, rfl, ?_⟩⟩
    obtain ⟨n, hn'⟩ := sortedHeap_at (out := (sortVals (dataKind (sortingHeap (h'.push (seqObj "list" vs.toArray 0)) h'.objs.size vs) (bs.map enc)) false vs vs).toArray) ho
    refine h _ _ _ _ n (fun b o q => ?_) hsz hn' (sortVals_data false e er' hal)
    have lt := Heap.lt_size (hk' b o q)
    rw [sortedHeap_old (Nat.ne_of_lt lt) (by rw [size_push']; exact Nat.lt_succ_of_lt lt)]
    exact Heap.get?_push_of_some _ (hk' b o q)
section
variable {X : Cx} {pins : List (Addr × Obj)} {σ : L2.St} {H F : Hp} {s : Shared}
/-- the pairs of a row, as they stand; the keys are frozen -/
theorem pairs_atF (I : Inv X pins σ H s) (f : Same F H) : ∀ {vs : List V} {its : List Value} {kvs : List (List Key × PyData)}, DqAll X.K F vs (kvs.map pairD) → Vals vs its →
    ∃ (Ts : List Addr) (ws : List (List Key × V)) (xs : List (List Key × Addr × Value)), its = Ts.map Value.ref ∧ Ts.length = xs.length ∧ (∀ (j : Nat) (T : Addr) (x : List Key × Addr × Value), Ts[j]? = some T → xs[j]? = some x → PairAt s.heap T (.ref x.2.1) x.2.2) ∧ KT F ws xs ∧ ws.map (·.1) = kvs.map (·.1) ∧ DqAll X.K F (ws.map (·.2)) (kvs.map (·.2))
  | _, its, [], q, r => by
    cases q
    cases r
    exact ⟨[], [], [], rfl, rfl, fun j T x h => by simp at h, .nil, rfl, .nil⟩
  | _, its, (key, d) :: kvs, q, r => by
    cases q with
    | cons q qs =>
      cases r with
      | cons r rs =>
        obtain ⟨Ts, ws, xs, e1, e2, e3, e4, e5, e6⟩ := pairs_atF I f qs rs
        cases q with
        | @tup T _ _ h t =>
          cases t with
          | cons t1 t =>
            cases t with
            | @cons w2 _ _ _ t2 t =>
              cases t
              obtain ⟨b, rfl, hb⟩ := tkey_lk (Same.refl F) (Lk.d (H := F) t1)
              cases r
              obtain ⟨its2, rv, tp, _⟩ := I.tuple (TupAt.mono f h).sq
              cases rv with
              | cons r1 rv =>
                cases rv with
                | @cons _ u2 _ _ r2 rv =>
                  cases rv
                  cases r1
                  refine ⟨_ :: Ts, (key, w2) :: ws, (key, b, u2) :: xs, by rw [e1]; rfl, by simp [e2], fun j T' x hT hx => ?_, .cons ⟨rfl, hb, r2⟩ e4, by rw [List.map_cons, List.map_cons, e5], .cons t2 e6⟩
                  cases j with
                  | zero =>
                    simp at hT hx
                    subst hT hx
                    exact .inl tp
                  | succ j => exact e3 j T' x (by simpa using hT) (by simpa using hx)
/-- dict(row of pairs), raw -/
theorem dict_raw {T : String} {a : Addr} {its : List Value} {Ts : List Addr} {ws : List (List Key × V)} {xs : List (List Key × Addr × Value)} {Q : Value → Shared → Prop} (hc : X.calm = true) (hu : X.A.units + 4 < cLine) {A : Around} (hA : A.units ≤ X.A.units + 1) (hh : A.handled = none) (I : Inv X pins σ H s) (f : Same F H)
    (e1 : its = Ts.map Value.ref) (e2 : Ts.length = xs.length) (e3 : ∀ (j : Nat) (T : Addr) (x : List Key × Addr × Value), Ts[j]? = some T → xs[j]? = some x → PairAt s.heap T (.ref x.2.1) x.2.2) (e4 : KT F ws xs) (hz : xs.length ≤ sizeLine)
    (PA : ∀ (Ts : Nat → Addr) (ps : List (Value × Value)), ∃ fp OK, PairArg X.prog X.w T a fp [] ps.length (PairRel ps) OK ∧ (PairItems s.heap its.toArray Ts ps → OK s.heap))
    (go : ∀ (h' : Heap) (tk : Nat), (∀ b o, s.heap.get? b = some o → h'.get? b = some o) → h'.DictOfH (tupleKind (mixKind X.prog X.w)) s.heap.objs.size (storedAllH [] xs) → Q (.ref s.heap.objs.size) { s with heap := h', toks := tk }) :
    wpAny (model X.prog X.w) A (call (.type "dict") [.ref a]) Q X.xe s := by
  let ps : List (Value × Value) := xs.map fun x => (.ref x.2.1, x.2.2)
  obtain ⟨fp, OK, P, ok⟩ := PA (fun j => Ts.getD j 0) ps
  have lp : ps.length = xs.length := List.length_map ..
  refine call_dict_pairsH (knd := tupleKind (mixKind X.prog X.w)) (ps := xs) P hh (by show A.units + 1 + 1 < cLine; omega) (ok ⟨?_, fun j k v hj => ?_⟩) ⟨lp.symm, fun i key v hr => ?_⟩ (fun h' hk x hx => ?_) (by rw [lp]; exact hz) fun h' tk hd hk => go h' tk (fun b o e => hk b o List.not_mem_nil e) hd
  · rw [List.size_toArray, e1, List.length_map, e2, lp]
  · have hj' : j < xs.length := by rw [← lp]; exact (List.getElem?_eq_some_iff.mp hj).1
    have hjT : j < Ts.length := by rw [e2]; exact hj'
    have hj2 : (xs[j]?.map fun x : List Key × Addr × Value => (Value.ref x.2.1, x.2.2)) = some (k, v) := by rw [← List.getElem?_map]; exact hj
    rw [List.getElem?_eq_getElem hj'] at hj2
    have ek : (Value.ref (xs[j]'hj').2.1, (xs[j]'hj').2.2) = (k, v) := Option.some.inj hj2
    injection ek with ek1 ek2
    subst ek1 ek2
    refine ⟨?_, ?_⟩
    · rw [e1]; simp [hjT]
    · have : Ts.getD j 0 = Ts[j]'hjT := by simp [hjT]
      show PairAt s.heap (Ts.getD j 0) _ _
      rw [this]
      exact e3 j _ _ (List.getElem?_eq_getElem hjT) (List.getElem?_eq_getElem hj')
  · have h0 : ps[i]? = some (key, v) := hr
    rw [List.getElem?_map] at h0
    cases e : xs[i]? with
    | none => rw [e] at h0; cases h0
    | some x =>
      rw [e] at h0
      obtain ⟨k, b, u⟩ := x
      cases h0
      exact ⟨k, b, rfl, rfl⟩
  · have all : ∀ {l : List (List Key × V)} {m : List (List Key × Addr × Value)}, KT F l m → ∀ x ∈ m, (tupleKind (mixKind X.prog X.w)).is s.heap x.1 x.2.1 := by
      intro l m q
      induction q with
      | nil => intro x hx; cases hx
      | @cons p q ps qs hq t ih =>
        intro x hx
        rcases List.mem_cons.mp hx with e | hx
        · subst e
          exact key_of I.hok (by rw [← hq.1]; exact f _ _ hq.2.1)
        · exact ih x hx
    exact tupleKind_stays.stays (fun b o _ _ e _ => hk b o (Nat.ne_of_lt (Heap.lt_size e)) List.not_mem_nil e) (all e4 x hx)
end
theorem each_self : ∀ l : List (List Key × Addr × Value), PySem.W.EachIs (fun v (x : List Key × Addr × Value) => v = Value.ref x.2.1) (l.map fun x => Value.ref x.2.1) l
  | [] => .nil
  | _ :: l => .cons rfl (each_self l)
theorem kt_mem {F : Hp} : ∀ {ws : List (List Key × V)} {xs : List (List Key × Addr × Value)}, KT F ws xs → ∀ x ∈ xs, F x.2.1 = some (.tup (x.1.map kV))
  | _, _, .nil, _, h => nomatch h
  | _, _, .cons q t, x, h => by
    rcases List.mem_cons.mp h with rfl | h
    · rw [← q.1]; exact q.2.1
    · exact kt_mem t x h
theorem kt_keys {F : Hp} : ∀ {ws : List (List Key × V)} {xs : List (List Key × Addr × Value)}, KT F ws xs → ws.map (·.1) = xs.map (·.1)
  | _, _, .nil => rfl
  | _, _, .cons q t => by rw [List.map_cons, List.map_cons, q.1, kt_keys t]
theorem dq_key {K : PySem.W.Frag} {F : Hp} {b : Addr} {key : List Key} (h : F b = some (.tup (key.map kV))) : Dq K F (.ref b) (tP key) := by
  have g : ∀ ks : List Key, DqAll K F (ks.map kV) (ks.map kP) := fun ks => by
    induction ks with
    | nil => exact .nil
    | cons k ks ih => exact .cons (by cases k with | inl i => exact .int i | inr x => exact .str x) ih
  exact .tup ⟨noO, rfl, by rw [tupO_k (tup_keys key)]; exact h⟩ (g key)
theorem vals_self : ∀ {l : List (List Key × Addr × Value)} {out : List Value}, PySem.W.EachIs (fun v (x : List Key × Addr × Value) => v = Value.ref x.2.1) out l → Vals (l.map fun x => V.ref x.2.1) out
  | _, _, .nil => .nil
  | _, _, .cons h t => .cons h (vals_self t)
def tSD (K : PySem.W.Frag) (te : TE) : TE := fun σ H Q => te σ H fun x H1 => ∃ (F : Hp) (a : Addr) (vs : List V) (kvs : List (List Key × PyData)), x = .ref a ∧ Same F H1 ∧ H1 a = some (.lst vs) ∧ DqAll K F vs (kvs.map pairD) ∧ sortOk (((putAll [] kvs).map (·.1)).map tP) ∧
  ∀ (r : Addr) (ys : List V), H1 r = none → DqAll K F ys (sortD (((putAll [] kvs).map (·.1)).map tP)) → Q (.ref r) (upd H1 r (.lst ys))
theorem pe_sdict {X : Cx} {e : Expr} {te : TE} {p p2 q pos : Pos} (hg : Gl X "sorted") (hm : X.mg "sorted" = none) (hg2 : Gl X "dict") (hm2 : X.mg "dict" = none) (hc : X.calm = true) (hu : X.A.units + 101 < cLine) (he : PE X e te)
    (na : starEach [e] X.env = (false, eval e X.env) :: starEach [] X.env := by rfl) : PE X (.Call (.Name "sorted" p) [.Call (.Name "dict" p2) [e] [] q] [] pos) (tSD X.K te) := by
  refine ⟨fun pins s σ H Q I h => ?_⟩
  refine Call_ (ld_blt I hg hm boot_sorted ?_)
  refine PyProof.Rows.callWith_builtin1 (PyProof.Rows.args_cons ?_ rfl) rfl rfl
  refine Call_ (ld_blt I hg2 hm2 boot_dict ?_)
  refine PyProof.Rows.callWith_type1 (PyProof.Rows.args_cons (thn (he.run pins s σ H _ I h) fun v s1 ⟨x, H1, I1, r1, q1⟩ => PyProof.Rows.args_nil ?_) na) na rfl
  obtain ⟨F, a, vs, kvs, rfl, f, ha, dq, so, go⟩ := q1
  cases r1
  obtain ⟨its, rv, pl, hz⟩ := I1.list (SqL.of ha)
  obtain ⟨o, n, h1, h2, h3, h4⟩ := pl
  obtain ⟨Ts, ws, xs, e1, e2, e3, e4, e5, e6⟩ := pairs_atF I1 f dq rv
  have hl : xs.length = vs.length := by rw [← e2, ← List.length_map (f := Value.ref), ← e1, rv.length]
  refine dict_raw (A := X.A) (Q := _) hc (by omega) (Nat.le_succ _) (I1.ok.hd hc) I1 f e1 e2 e3 e4 (by rw [hl]; exact hz) (fun Ts ps => ⟨_, _, PairArg.list a its.toArray Ts ps, fun h => ⟨⟨o, n, h1, h2, h3, h4⟩, h⟩⟩) fun h' tk hk hd => ?_
  refine PyProof.Rows.args_nil ?_
  obtain ⟨o', es, ep, d1, d2, d3, d4, d5, d6⟩ := hd
  have kt : KT F (putVs [] ws) (storedAllH [] xs) := kt_all (P := X.prog) (w := X.w) .nil e4
  obtain ⟨k1, _⟩ := puts_rel (K := X.K) (F := F) (aw := []) (ak := []) rfl .nil e5 e6
  have keys : (storedAllH [] xs).map (fun x => tP x.1) = ((putAll [] kvs).map (·.1)).map tP := by rw [← k1, kt_keys kt, List.map_map]; rfl
  have hes : es.size = (storedAllH [] xs).length := size_of_entries d4
  have hle : (storedAllH [] xs).length ≤ sizeLine := by
    refine Nat.le_trans (storedAllH_length xs []) ?_
    rw [List.length_nil, Nat.zero_add, hl]; exact hz
  have ek : es.toList.map (·.key) = (storedAllH [] xs).map fun x => Value.ref x.2.1 := by rw [d4, List.map_map]; rfl
  have I2 : Inv X pins σ H1 { s1 with heap := h', toks := tk } := I1.kept fun b o e => hk b o e
  refine sorted_dct (enc := fun x : List Key × Addr × Value => tP x.1) (R := fun v x => v = Value.ref x.2.1) (bs := storedAllH [] xs) (s := { s1 with heap := h', toks := tk }) (I2.ok.hd hc) (beq_eq_false_iff_ne.mpr (Nat.ne_of_gt I1.big)) ⟨o', d1, d2, d3⟩ (by rw [hes]; exact hle) (by rw [ek]; exact each_self _) ?_ (by rw [keys]; exact so.1) (by rw [keys]; exact so.2.1) (fun b hb => ?_) fun h'' tk2 r out n2 keep lt hr eo => ?_
  · rw [ek]
    have g : ∀ l : List (List Key × Addr × Value), (∀ x ∈ l, F x.2.1 = some (.tup (x.1.map kV))) → PySem.W.EachIs (fun v (b : List Key × Addr × Value) => ∃ as, Reads h' v (tP b.1) as) (l.map fun x => Value.ref x.2.1) l := fun l => by
      induction l with
      | nil => intro _; exact .nil
      | cons x l ih =>
        intro hx
        exact .cons (Dq.reads I2 f (tP x.1) (.ref x.2.1) (.ref x.2.1) (dq_key (hx x List.mem_cons_self)) rfl) (ih fun y hy => hx y (List.mem_cons_of_mem _ hy))
    exact g _ (kt_mem kt)
  · have : tP b.1 ∈ ((putAll [] kvs).map (·.1)).map tP := by rw [← keys]; exact List.mem_map_of_mem (f := fun x : List Key × Addr × Value => tP x.1) hb
    have := depthAll_mem this
    have := so.2.2
    show X.A.units + 2 + (tP b.1).depth < cLine
    omega
  · have le : s1.heap.objs.size ≤ r := Nat.le_of_lt lt
    refine ⟨.ref r, _, I1.laid (t' := tk2) (o := .lst (((storedAllH [] xs).mergeSort (PySem.W.dataLe false fun x => tP x.1)).map fun x => V.ref x.2.1)) (fun b o e => keep b o (hk b o e)) le (show ObjOk X.prog X.w _ _ _ (.lst _) from ⟨by rw [List.length_map, List.length_mergeSort]; exact hle, out, n2, vals_self eo, hr⟩), rfl, go r _ (I1.hok.fresh le) ?_⟩
    have e3' := List.map_mergeSort (r := PySem.W.dataLe false fun x : List Key × Addr × Value => tP x.1) (s := PySem.W.dataLe false id) (f := fun x : List Key × Addr × Value => tP x.1) (l := storedAllH [] xs) (fun _ _ _ _ => rfl)
    rw [keys] at e3'
    unfold sortD
    rw [← e3']
    have g : ∀ l : List (List Key × Addr × Value), (∀ x ∈ l, F x.2.1 = some (.tup (x.1.map kV))) → DqAll X.K F (l.map fun x => V.ref x.2.1) (l.map fun x => tP x.1) := fun l => by
      induction l with
      | nil => intro _; exact .nil
      | cons x l ih => intro hx; exact .cons (dq_key (hx x List.mem_cons_self)) (ih fun y hy => hx y (List.mem_cons_of_mem _ hy))
    exact g _ fun x hx => kt_mem kt x (List.mem_mergeSort.mp hx)
/-- sorted(dict(pairs)) -/
def wSD (wa : WX) : WE := fun Z ρ Q => wa Z ρ fun a ρ1 => lkD ρ1 a fun d => ∃ kvs : List (List Key × PyData), d = .list (kvs.map pairD) ∧ sortOk (((putAll [] kvs).map (·.1)).map tP) ∧ Q (.lst (sortD (((putAll [] kvs).map (·.1)).map tP))) ρ1
theorem d_SD {X : Cx} {E : EX} {e : Expr} {wa : WX} {p p2 q pos : Pos} (hc : X.calm = true) (hu : X.A.units + 101 < cLine) (hg : Gl X "sorted") (hm : X.mg "sorted" = none) (hg2 : Gl X "dict") (hm2 : X.mg "dict" = none) (ha : PE X e (rx X.K X.mg E wa))
    (na : starEach [e] X.env = (false, eval e X.env) :: starEach [] X.env := by rfl) : PE X (.Call (.Name "sorted" p) [.Call (.Name "dict" p2) [e] [] q] [] pos) (rd X.K X.mg E (wSD wa)) := pe_imp (pe_sdict hg hm hg2 hm2 hc hu ha na) fun σ H Q ⟨ρ, F, fps, Z, Qd, st, hw, zc, k⟩ => by
  refine ⟨ρ, F, fps, Z, _, st, hw, zc, fun a v1 ρ1 F1 H1 fps1 g1 q1 h1 => ?_⟩
  obtain ⟨d, ⟨kvs, rfl, so, h3⟩, l1⟩ := lk_rel g1.st.rs q1 h1
  obtain ⟨b, xs, rfl, h, t⟩ := lstH g1.st.wf.sub l1
  exact ⟨F1, b, xs, kvs, rfl, g1.st.wf.sub, h, t, so, fun r ys hr dq => k _ _ _ _ _ _ _ (.after g1 (.lst g1.st hr dq)) h3⟩
end DL

/-! for k, v in d.items() -/
namespace DL
open PySem PySem.Spec PyProof.Rows L2
/-- the pairs of the locked dict at d, each a new tuple -/
def ItiT (d : Addr) (o : Obj) (kvs : List (List Key × V)) : It :=
  ⟨fun i H => H d = some (.frz o (.dT kvs)) ∧ i < kvs.length,
    fun i H x H' => ∃ T k v q, kvs[i]? = some (k, v) ∧ x = .ref T ∧ H T = none ∧ H q = some (.tup (k.map kV)) ∧ H' = upd H T (.tup [.ref q, v]),
    fun i H => H d = some (.frz o (.dT kvs)) ∧ kvs.length ≤ i⟩
section
variable {X : Cx} {pins : List (Addr × Obj)} {σ : L2.St} {H : Hp} {s : Shared} {d : Addr} {o : Obj}
theorem frzT2 {kvs : List (List Key × V)} (I : Inv X pins σ H s) (h : H d = some (.frz o (.dT kvs))) :
    (d == sysModules) = false ∧ s.heap.get? d = some o ∧ o.ExactDict ∧ ∃ (es : Array DictEntry) (ep : Nat), o.data = .dict es ep ∧ es.size = kvs.length ∧
      ∀ (i : Nat) (k : List Key) (v : V), kvs[i]? = some (k, v) → ∃ (hi : i < es.size) (q : Addr), es[i].key = .ref q ∧ H q = some (.tup (k.map kV)) ∧ RelV v es[i].val := by
  obtain ⟨hd, z, hs, xs, pr, o', es, ep, ho, hx, hdt, he, _⟩ := I.hok d _ h
  rw [hd] at ho
  cases ho
  have l1 : es.size = xs.length := size_of_entries he
  have l2 : kvs.length = xs.length := Paired.length pr
  refine ⟨hs, hd, hx, es, ep, hdt, by omega, fun i k v e => ?_⟩
  obtain ⟨b, hb, e1, e2, e3⟩ := L2.paired_get pr e
  have q := entry_at he i
  rw [hb] at q
  obtain ⟨hi, q⟩ := Array.getElem?_eq_some_iff.mp q
  exact ⟨hi, b.2.1, by rw [q]; rfl, e2, by rw [q]; exact e3⟩
end
theorem turn_itemsT {P : Program} {w : World} {K : PySem.W.Frag} {d : Addr} {o : Obj} {es : Array DictEntry} {ep : Nat} {kvs : List (List Key × V)} {elts : List Expr} {kk : Nat} {tpos : Pos} (it : Addr) (hod : o.data = .dict es ep) :
    Turn P w K (.Tuple elts kk tpos) (ItiT d o kvs) [it] it (fun i h => ∃ ok ov, IsItemIter h it d i kvs.length ep ok ov) where
  mem := by simp
  obj := fun i h st b hb => by
    have e : b = it := by simpa using hb
    subst e
    obtain ⟨ok, ov, e⟩ := st
    exact ⟨_, e, fun v z => nomatch z⟩
  keep := fun i h h' st k => let ⟨ok, ov, e⟩ := st; ⟨ok, ov, k it (by simp) _ e⟩
  item := by
    intro X hP hw hK hc i pins s σ H E I hf st hg
    subst hP hw hK
    obtain ⟨hd, hi⟩ := hg
    obtain ⟨hs, hgd, hx, es', ep', hdt, hsz, ent⟩ := frzT2 I hd
    obtain ⟨rfl, rfl⟩ := dict_ep hod hdt
    obtain ⟨⟨k, v⟩, hkv⟩ : ∃ p, kvs[i]? = some p := ⟨kvs[i], List.getElem?_eq_getElem hi⟩
    obtain ⟨hi', q, hkey, hq, ru⟩ := ent i k v hkv
    have hne : d ≠ it := ne_of_none hd (hf it (by simp)).1
    rw [← hsz] at st
    have W := GoesN.rawItems (prog := X.prog) (w := X.w) (A := X.A) (elts := elts) (x1 := kk) (pos := tpos) (I.ok.hd hc) it d hne es' ep'
    refine W.goes i s _ _ hi' ⟨st, ⟨_, hgd, hx, hdt⟩⟩ fun v' h' tk hY st' hk htk => ?_
    obtain ⟨T, hi2, rfl, hT, hI⟩ := hY
    obtain ⟨st', _⟩ := st'
    rw [hsz] at st'
    rw [hkey] at hI
    have new : ObjOk X.prog X.w (upd H T (.tup [.ref q, v])) h' T (.tup [.ref q, v]) := ⟨by show 2 ≤ sizeLine; decide, [.ref q, es'[i].val], .cons rfl (.cons ru .nil), hI⟩
    have I1 : Inv X pins σ (upd H T (.tup [.ref q, v])) { s with heap := h', toks := tk } := I.turnedNew (ch := [it]) hk (fun b hb => hf b (by simpa using hb)) hT new
    refine ⟨.ref T, _, I1, rfl, ⟨T, k, v, q, hkv, rfl, I.hok.fresh hT, hq, rfl⟩, st', fun b hb => ?_⟩
    have e : b = it := by simpa using hb
    have hlt : it < s.heap.objs.size := by obtain ⟨ok, ov, e⟩ := st; exact Heap.lt_size e
    rw [e, upd_ne (Nat.ne_of_lt (Nat.lt_of_lt_of_le hlt hT))]
    exact (hf it (by simp)).1
  done := by
    intro X hP hw hK hc i pins s σ H E I hf st hg
    subst hP hw hK
    obtain ⟨hd, hi⟩ := hg
    obtain ⟨hs, hgd, hx, es', ep', hdt, hsz, ent⟩ := frzT2 I hd
    obtain ⟨rfl, rfl⟩ := dict_ep hod hdt
    have hne : d ≠ it := ne_of_none hd (hf it (by simp)).1
    obtain ⟨f0, f1, f2, f3, f4, f5⟩ := hf it (by simp)
    obtain ⟨ok, ov, he⟩ := st
    rw [← hsz] at he
    exact wpAny_pyNext_items_end_raw (I.ok.hd hc) he ⟨_, hgd, hx, hdt⟩ (by omega) fun h' eb => ⟨rfl, I.turned (t' := s.toks) (fun b ob hb e => eb b ob hb e) f0 f1 f3 f4 f5⟩
  self := fun A i s Q E st h => let ⟨_, _, e⟩ := st; PySem.W.kcp_self e h
/-- the own dict is locked, then walked -/
def iItL (td : TE) : TI := fun σ H R => td σ H fun x H1 => ∃ d kvs, x = .ref d ∧ H1 d = some (.dT kvs) ∧ ∀ od, R (ItiT d od kvs) (upd H1 d (.frz od (.dT kvs)))
theorem pi_itemsT {X : Cx} {e : Expr} {td : TE} {apos cpos : Pos} {elts : List Expr} {kk : Nat} {tpos : Pos} (he : PE X e td) (hbase : attributeBase e "items" X.env (eval e X.env) = eval e X.env := by rfl) (hline : (apos.endLine == cpos.line) = true := by rfl) :
    PI X (.Tuple elts kk tpos) (.Call (.Attribute e "items" apos) [] [] cpos) (iItL td) := by
  refine ⟨fun pins s σ H R I h => ?_⟩
  refine wpAny_Call_method (T := "dict") (id := "dict.items") hbase rfl hline F.plainAttrs_dict F.slot_dict_items F.type_dict_items (thn (he.run pins s σ H _ I h) fun u s1 ⟨x, H1, I0, rx, d, kvs, ex, hd0, q⟩ => ?_)
  subst ex
  obtain rfl : u = Value.ref d := rx
  obtain ⟨od, I1⟩ := I0.lock hd0 trivial
  replace q := q od
  have hd : upd H1 d (.frz od (.dT kvs)) d = some (.frz od (.dT kvs)) := upd_same
  obtain ⟨hs, hgd, hx, es, ep, hdt, hsz, _⟩ := frzT2 I1 hd
  have hm : s1.heap.DictRaw d es ep := ⟨_, hgd, hx, hdt⟩
  refine ⟨hm.typeIs, fun a ea => by cases ea; exact ⟨_, hgd, hx.2.1⟩, ?_⟩
  have I2 : Inv X pins σ (upd H1 d (.frz od (.dT kvs))) { s1 with heap := s1.heap.push { cls := .type "dict_items", data := .fields #[.ref d] } } := I1.kept (t' := s1.toks) fun b ob q => Heap.get?_push_of_some _ q
  have fin : wpAny (model X.prog X.w) X.A (pyIter (.ref s1.heap.objs.size)) (PIE X pins σ (.Tuple elts kk tpos) R) X.xe { s1 with heap := s1.heap.push { cls := .type "dict_items", data := .fields #[.ref d] } } := by
    refine wpAny_pyIter_items_raw (d := d) ⟨_, Heap.get?_push_size _ rfl, rfl, rfl⟩ (hm.at fun o e => Heap.get?_push_of_some _ e) (pi_one (tk := s1.toks) I2 _ (turn_itemsT _ hdt) ⟨.none, .none, ?_⟩ q)
    rw [← hsz]
    exact Heap.get?_push_size _ rfl
  show wpAny _ _ (callWith cpos (.builtin "dict.items") [.ref d] [] []) _ X.xe s1
  exact method_meetsIn F.slot_dict_items F.entry_dict_items rfl (PySem.evalArgs_none ⟨rfl, hm.typeIs, F.args_dict_items_1 _, _, meets_dict_items_raw d hs, ⟨_, _, hm⟩, fin⟩)
theorem pair_lt {α : Type} {xs : List α} {i : Nat} (h : i < xs.length) : xs[i]? = some xs[i] := List.getElem?_eq_getElem h
theorem key_fz {K : PySem.W.Frag} {F H : Hp} {q : Addr} {k : List Key} (s : Same F H) (h : H q = some (.tup (k.map kV))) : ∃ F1, Same F F1 ∧ Same F1 H ∧ Dq K F1 (.ref q) (tP k) ∧ ∀ {ρ : En} {σ : Sg} {fps : Nat → Addr → Prop}, Sta K F H ρ σ fps → GotS K ρ σ F H fps ρ σ F1 H fps := by
  have dk : DqAll K F (k.map kV) (k.map kP) := DqAll.of_map fun a _ => by cases a with
    | inl i => exact .int i
    | inr x => exact .str x
  have tk : ∀ {F1 : Hp}, F1 q = some (.tup (k.map kV)) → TupAt F1 q (k.map kV) := fun e => ⟨noO, rfl, by rw [tupO_k (tup_keys k)]; exact e⟩
  cases e : F q with
  | some o =>
    have e2 := s _ _ e
    rw [h] at e2
    cases e2
    exact ⟨F, .refl _, s, .tup (tk e) dk, fun st => .refl st⟩
  | none =>
    have gr : Same F (upd F q (.tup (k.map kV))) := fun b u eb => by rw [upd_ne (ne_of_none eb e)]; exact eb
    have sb : Same (upd F q (.tup (k.map kV))) H := fun b u eb => by
      by_cases hb : b = q
      · subst hb; rw [upd_same] at eb; rw [h]; exact eb
      · rw [upd_ne hb] at eb; exact s _ _ eb
    refine ⟨_, gr, sb, .tup (tk upd_same) (dk.mono gr), fun {ρ σ fps} st => ⟨⟨gr, fun b eb eb' => ?_, fun b o eb _ => eb, fun b z => .inl z⟩, ⟨⟨sb, fun b z => ?_, st.wf.dom⟩, st.rs.stay gr fun _ _ => rfl⟩, .refl⟩⟩
    · by_cases hb : b = q
      · subst hb; exact .inr (.inr ⟨_, h⟩)
      · rw [upd_ne hb] at eb'; exact absurd eb eb'
    · have hb : b ≠ q := fun z' => st.nt z _ (by rw [z']; exact h)
      rw [upd_ne hb]; exact st.wf.out b z
/-- the pairs of a dict, as data -/
def itmD (D : List (PyData × PyData)) : List PyData := D.map fun p => .tuple [p.1, p.2]
theorem strm_iT {K : PySem.W.Frag} {F : Hp} {a : Addr} {od : Obj} {ws : List (List Key × V)} {kvs : List (List Key × PyData)} (h : F a = some (.frz od (.dT ws))) (ek : ws.map (·.1) = kvs.map (·.1)) (q : DqAll K F (ws.map (·.2)) (kvs.map (·.2))) : Strm true K F (ItiT a od ws) (itmD (entT kvs)) := by
  have el : ws.length = kvs.length := by have := congrArg List.length ek; rwa [List.length_map, List.length_map] at this
  have ed : (itmD (entT kvs)).length = kvs.length := by unfold itmD entT; rw [List.length_map, List.length_map]
  refine ⟨fun s1 s2 => ⟨s2 _ _ (s1 _ _ h), by rw [ed, el]; exact Nat.le_refl _⟩, fun hi s1 s2 => ⟨s2 _ _ (s1 _ _ h), by rw [ed] at hi; rw [el]; exact hi⟩, fun {i d F' H x H'} hd s1 s2 y => ?_⟩
  obtain ⟨T, k, v, p, hw, rfl, hT, hp, rfl⟩ := y
  have hi : i < kvs.length := by rw [← ed]; exact (List.getElem?_eq_some_iff.mp hd).1
  have e1 : (ws.map (·.1))[i]? = some k := by rw [List.getElem?_map, hw]; rfl
  have e2 : (ws.map (·.2))[i]? = some v := by rw [List.getElem?_map, hw]; rfl
  rw [ek] at e1
  obtain ⟨dv, hv, r⟩ := q.get e2
  have ed' : d = .tuple [tP k, dv] := by
    rw [List.getElem?_map, pair_lt hi] at e1 hv
    have a1 : kvs[i].1 = k := Option.some.inj e1
    have a2 : kvs[i].2 = dv := Option.some.inj hv
    unfold itmD entT at hd
    rw [List.getElem?_map, List.getElem?_map, pair_lt hi] at hd
    have := Option.some.inj hd
    rw [← this, ← a1, ← a2]
  subst ed'
  obtain ⟨F1, g1, sb, dk, gs⟩ := key_fz (K := K) s2 hp
  obtain ⟨F2, gt, dq⟩ := strm_new (p := T) (vs := [.ref p, v]) (ds := [tP k, dv]) sb hT (.cons dk (.cons ((r.mono s1).mono g1) .nil))
  exact ⟨F2, fun st => (gs st).trans (gt (gs st).st), dq⟩
section
variable {K : PySem.W.Frag} {σ : Sg} {F H : Hp} {fps : Nat → Addr → Prop} {ρ : En}
/-- an own dict is locked where it stands, and is data from there on -/
theorem Sta.lockT {i : Nat} {kvs : List (List Key × PyData)} (s : Sta K F H ρ σ fps) (h : ρ[i]? = some (.v (.dT kvs))) : ∃ a ws, σ[i]? = some (some (.ref a)) ∧ H a = some (.dT ws) ∧ ws.map (·.1) = kvs.map (·.1) ∧ ∀ od,
    GotS K ρ σ F H fps (ρ.set i (.v (.dat (encT kvs)))) σ (upd F a (.frz od (.dT ws))) (upd H a (.frz od (.dT ws))) (setF fps i Nil) ∧ DqAll K (upd F a (.frz od (.dT ws))) (ws.map (·.2)) (kvs.map (·.2)) := by
  obtain ⟨v, hv, rn⟩ := s.rs.rel i _ (.inl h)
  have g := s.move h hv rn
  obtain ⟨a, ws, rfl, ef, ha, ek, q⟩ := rn
  have fi : fps i a := by rw [ef]; rfl
  have fa : F a = none := s.wf.out a ⟨i, fi⟩
  refine ⟨a, ws, hv, ha, ek, fun od => ?_⟩
  have gr : Same F (upd F a (.frz od (.dT ws))) := fun b u e => by rw [upd_ne (ne_of_none e fa)]; exact e
  have nb : ∀ b, Ow (setF fps i Nil) b → b ≠ a := fun b z e => g.ap a (by rw [ef]; rfl) (e ▸ z)
  have hi : i < ρ.length := (List.getElem?_eq_some_iff.mp h).1
  have q2 := q.mono gr
  refine ⟨⟨⟨gr, fun b e e' => ?_, fun b o e no => ?_, fun b z => g.tr.sub b (.inl z)⟩, ⟨⟨fun b u e => ?_, fun b z => ?_, fun b z => ?_⟩, ?_⟩, fun j m e => ⟨?_, rfl⟩⟩, q2⟩
  · by_cases hb : b = a
    · subst hb; exact .inl ⟨i, fi⟩
    · rw [upd_ne hb] at e'; exact absurd e e'
  · rw [upd_ne fun z => no ⟨i, by rw [z]; exact fi⟩]; exact e
  · by_cases hb : b = a
    · subst hb; rw [upd_same] at e ⊢; exact e
    · rw [upd_ne hb] at e ⊢; exact s.wf.sub b u e
  · rw [upd_ne (nb b z)]; exact g.wf.out b (.inl z)
  · rw [upd_ne (nb b z)]; exact g.wf.dom b (.inl z)
  · have r := (g.rs.stay (H' := upd H a (.frz od (.dT ws))) gr fun b hb => upd_ne (nb b hb)).putD (i := i) (d := encT kvs) (by rw [List.length_set]; exact hi) (setF_same' rfl) hv (.dT (.inr ⟨od, upd_same⟩) ek q2 rfl)
    rwa [List.set_set] at r
  · by_cases ej : i = j
    · subst ej; rw [h] at e; cases e
    · rw [List.getElem?_set_ne ej]; exact ⟨m, e⟩
end
/-- for .. in d.items(), d an own dict: data from there on -/
def iItm (i : Nat) : WI := fun _ ρ Q => match ρ[i]? with
  | some (.v (.dT kvs)) => Q (itmD (entT kvs)) (ρ.set i (.v (.dat (encT kvs))))
  | _ => False
theorem i_itm {X : Cx} {E : EX} {i : Nat} {x : Str} {p apos cpos : Pos} {elts : List Expr} {kk : Nat} {tpos : Pos} (h : PE X (.Name x p) (tVar i)) (hbase : attributeBase (.Name x p) "items" X.env (eval (.Name x p) X.env) = eval (.Name x p) X.env := by rfl) (hline : (apos.endLine == cpos.line) = true := by rfl) :
    PI X (.Tuple elts kk tpos) (.Call (.Attribute (.Name x p) "items" apos) [] [] cpos) (riB true X.K X.mg E (iItm i)) := pi_imp (pi_itemsT h hbase hline) fun σ H R ⟨ρ, F, fps, Z, Qd, st, hw, zc, k⟩ => by
  unfold iItm at hw
  cases e : ρ[i]? with
  | none => rw [e] at hw; exact hw.elim
  | some sl =>
    rw [e] at hw
    cases sl with
    | e => exact hw.elim
    | p n => exact hw.elim
    | v n =>
      cases n with
      | dT kvs =>
        obtain ⟨a, ws, hv, ha, ek, go⟩ := st.lockT e
        exact ⟨.ref a, hv, a, ws, rfl, ha, fun od => k _ _ _ _ _ _ (go od).1 (strm_iT upd_same ek (go od).2) hw⟩
      | _ => exact hw.elim
end DL

/-! {k: v}, k a tuple, an int or a text -/
namespace DL
open PySem PySem.Spec PyProof.Rows L2
def ds1Q (Q : VK) (p : Addr) (ps : List (V × V)) (H2 : Hp) : Prop := H2 p = some (.dT []) ∧ ∃ key b y, ps = [(.ref b, y)] ∧ H2 b = some (.tup (List.map kV key)) ∧ Q (.ref p) (upd H2 p (.dT [(key, y)]))
def tDs1T (tk tv : TE) : TE := fun σ H Q => ∀ p, H p = none → tk σ (upd H p (.dT [])) fun x H1 => tv σ H1 fun y H2 => ds1Q Q p [(x, y)] H2
theorem pe_ds1T {X : Cx} {pos : Pos} {k v : Expr} {tk tv : TE} (hu : X.A.units < cLine) (hk : PE X k tk) (hv : PE X v tv) : PE X (.Dict [some k] [v] pos) (tDs1T tk tv) := by
  refine ⟨fun pins s σ H Q I q => ?_⟩
  have hn := I.hok.fresh (Nat.le_refl s.heap.objs.size)
  have I1 := I.laid (a := s.heap.objs.size) (o := .dT []) (h' := s.heap.push { cls := .type "dict", data := .dict #[] }) (t' := s.toks) (fun _ _ q => Heap.get?_push_of_some _ q) (Nat.le_refl _) (dt_empty s.heap I.big)
  have l1 : (pairTrees [some k] [v] X.env pos).length = 1 := rfl
  rw [arm_eval_Dict, zip_pairTrees [some k] [v] X.env pos rfl rfl, dictDisplay_pairs _ (by intro h; cases h) (by rw [l1]; decide)]
  refine wpAny_bind (wpAny_standAt (wpAny_bind (wpAny_subDictH (knd := tupleKind (mixKind X.prog X.w)) (Q := fun d s' => wpAny (model X.prog X.w) X.A (pure (Value.ref d)) (EP X pins σ Q) X.xe s') hu (by rw [l1]; decide) (thn ((pps_cons hk hv pps_nil).run pins _ σ _ (ds1Q Q s.heap.objs.size) I1 (q _ hn)) fun ws s2 ⟨ps, H2, I2, rel, e, key, b, y, ep, hb, q2⟩ => ?_))))
  subst ep
  cases rel with
  | @cons p' q' _ _ h t =>
    cases t
    obtain ⟨u1, u2⟩ := q'
    obtain ⟨r1, r2⟩ := h
    cases (show u1 = Value.ref b from r1)
    obtain ⟨z, hd, xs', rel', dd⟩ := dt_of I2.hok e
    cases rel'
    refine ⟨[(key, b, u2)], ⟨rfl, rfl, key_of I2.hok hb, trivial⟩, dd, fun h' tk dd' hs => wpAny_pure ?_⟩
    have dd2 : h'.DictOfH (tupleKind (mixKind X.prog X.w)) s.heap.objs.size [(key, b, u2)] := dd'
    obtain ⟨o, es, ep, d1, d2, d3, d4, d5, d6⟩ := dd2
    have hbn : b ≠ s.heap.objs.size := ne_of hb e (fun z => nomatch z)
    refine ⟨.ref s.heap.objs.size, upd H2 s.heap.objs.size (.dT [(key, y)]), d_write (t' := tk) I2 (by rw [e]; exact True.intro) hs ⟨o, d1⟩ ⟨by show 1 ≤ sizeLine; decide, hd, [(key, b, u2)], .cons ⟨rfl, by rw [upd_ne hbn]; exact hb, r2⟩ .nil, o, es, ep, d1, d2, d3, d4, d6⟩, rfl, q2⟩
section
variable {K : PySem.W.Frag} {σ σ1 : Sg} {F H F1 H1 : Hp} {fps fps1 : Nat → Addr → Prop} {ρ ρ1 : En} {fv : Addr → Prop}
/-- a new content for the own dict that is held -/
theorem Got.putT {D : Addr} {ds es : List (List Key × PyData)} {ws : List (List Key × V)} (g : Got K ρ σ F H fps (.dT ds) (.ref D) ρ1 σ1 F1 H1 fps1 fv) (ek : ws.map (·.1) = es.map (·.1)) (q : DqAll K F1 (ws.map (·.2)) (es.map (·.2))) : Got K ρ σ F H fps (.dT es) (.ref D) ρ1 σ1 F1 (upd H1 D (.dT ws)) fps1 fv := by
  obtain ⟨a, vs, e1, e2, e3, _⟩ := g.rn
  cases e1
  have hD : fv D := by rw [e2]; rfl
  refine ⟨⟨g.tr.grow, g.tr.new, fun b o e no => ?_, g.tr.sub⟩, ⟨fun b o e => ?_, g.wf.out, fun b z => ?_⟩, g.rs.stay (.refl _) fun b hb => ?_, g.pk, ⟨D, ws, rfl, e2, upd_same, ek, q⟩, g.ap⟩
  · have hb : b ≠ D := fun z => by
      subst z
      rcases g.tr.sub b (.inr hD) with z | z
      · exact no z
      · rw [z] at e; cases e
    rw [upd_ne hb]; exact g.tr.keep b o e no
  · have hb : b ≠ D := fun z => by subst z; rw [g.wf.out b (.inr hD)] at e; cases e
    rw [upd_ne hb]; exact g.wf.sub b o e
  · by_cases hb : b = D
    · subst hb; rw [upd_same]; exact fun q => nomatch q
    · rw [upd_ne hb]; exact g.wf.dom b z
  · have hbd : b ≠ D := fun z => by subst z; exact g.ap b hD hb
    rw [upd_ne hbd]
end
def wDsT (wk wv : WE) : WE := fun Z ρ Q => wk Z ρ fun n ρ1 => asD n fun x => wv Z ρ1 fun m ρ2 => asD m fun y => ∃ key, x = tP key ∧ Q (.dT [(key, y)]) ρ2
theorem d_dsT {X : Cx} {E : EX} {pos : Pos} {k v : Expr} {wk wv : WE} (hu : X.A.units < cLine) (hk : PE X k (rd X.K X.mg E wk)) (hv : PE X v (rd X.K X.mg E wv)) : PE X (.Dict [some k] [v] pos) (rd X.K X.mg E (wDsT wk wv)) := pe_imp (pe_ds1T hu hk hv) fun σ H Q ⟨ρ, F, fps, Z, Qd, st, hw, zc, kk⟩ => by
  intro p hp
  have g0 := Got.dT0 (K := X.K) (p := p) st hp
  refine part g0.st (zc.step g0.s) hw fun x vx ρ1 F1 H1 fps1 g1 dx hw1 => ?_
  have c1 := g0.carry g1
  refine part g1.st ((zc.step g0.s).step g1) hw1 fun y vy ρ2 F2 H2 fps2 g2 dy hw2 => ?_
  obtain ⟨key, rfl, hQ⟩ := hw2
  have c2 := c1.carry g2
  obtain ⟨b, rfl, hb⟩ := tkey_lk (F := F2) g2.st.wf.sub (.d (dx.mono g2.tr.grow))
  obtain ⟨a, ws, e1, e2, e3, e4, _⟩ := c2.rn
  cases e1
  have ew : ws = [] := List.map_eq_nil_iff.mp e4
  subst ew
  refine ⟨e3, key, b, vy, rfl, hb, ?_⟩
  exact kk _ _ _ _ _ _ _ (c2.putT (ws := [(key, vy)]) (es := [(key, y)]) rfl (.cons dy .nil)) hQ
section
variable {X : Cx} {k : Nat} {E : EX} (C : Bd X k E)
include C
theorem Bd.u0 : X.A.units < cLine := by have := C.room.units; omega
end
end DL

/-! x, y, z, t = a, b, c, d -/
namespace DL
open PySem PySem.Spec PyProof.Rows L2
def tgNs : List Nat → TGs
  | [] => gNil
  | i :: is => gCons (gName i) (tgNs is)
section
variable {K : PySem.W.Frag} {σ σ1 : Sg} {F H F1 H1 : Hp} {fps fps1 : Nat → Addr → Prop} {ρ ρ1 : En} {L : List Hd}
/-- a new thing that is nobody's -/
theorem GotL.stray {p : Addr} {o : HO} (g : GotL K ρ σ F H fps L ρ1 σ1 F1 H1 fps1) (h : H1 p = none) : GotL K ρ σ F H fps L ρ1 σ1 F1 (upd H1 p o) fps1 := by
  have np : ∀ b, Or2 (Ow fps1) (OwL L) b → b ≠ p := fun b z e => g.wf.dom b z (by rw [e]; exact h)
  refine ⟨⟨g.tr.grow, g.tr.new, fun b u e no => ?_, g.tr.sub⟩, ⟨fun b u e => ?_, g.wf.out, fun b z => ?_⟩, g.rs.stay (.refl _) fun b hb => upd_ne (np b (.inl hb)), g.pk, fun x m => ?_, g.ap, g.dis⟩
  · have e1 := g.tr.keep b u e no
    rw [upd_ne (ne_of_none e1 h)]; exact e1
  · have e1 := g.wf.sub b u e
    rw [upd_ne (ne_of_none e1 h)]; exact e1
  · rw [upd_ne (np b z)]; exact g.wf.dom b z
  · exact (g.rn x m).stay (.refl _) fun a ha => upd_ne (np a (.inr (owL_of m ha)))
theorem names_go {nx : En → Prop} {dn : Sg → Hp → Prop} : ∀ {is : List Nat} {L : List Hd} {ρ1 : En} {σ1 : Sg} {fps1 : Nat → Addr → Prop}, GotL K ρ σ F H fps L ρ1 σ1 F1 H1 fps1 → setN is (L.map (·.1)) ρ1 nx →
    (∀ ρ' σ' fps', GotS K ρ σ F H fps ρ' σ' F1 H1 fps' → nx ρ' → dn σ' H1) → tgNs is (L.map (·.2.1)) σ1 H1 dn ∧ L.length = is.length
  | [], [], ρ1, σ1, fps1, g, q, fin => ⟨⟨rfl, fin _ _ _ g.s q⟩, rfl⟩
  | i :: is, (n, v, fv) :: L, ρ1, σ1, fps1, g, q, fin => by
    obtain ⟨hp, q⟩ := q
    obtain ⟨f2, g2⟩ := g.pop hp
    obtain ⟨a, b⟩ := names_go g2 q fin
    exact ⟨⟨v, _, rfl, a⟩, by rw [List.length_cons, List.length_cons, b]⟩
  | [], _ :: _, _, _, _, _, q, _ => q.elim
  | _ :: _, [], _, _, _, _, q, _ => q.elim
end
theorem s_parN {X : Cx} {E : EX} {ws : WNs} {is : List Nat} {ts es : List Expr} {pos pt pt2 : Pos} {kt k2} (hc : X.calm = true) (ha : PA X es (rna X.K X.mg E ws)) (hg : PGs X ts (tgNs is)) (hn : (assignEach ts X.env).length = is.length := by rfl) (hst : (assignEach ts X.env).findIdx? (·.1) = none := by rfl) (hl : is.length ≤ 1000 := by decide)
    (hs : swapsWithSole [.Tuple ts kt pt] (.Tuple es k2 pt2) pos.line X.env = pure false := by rfl) (hw : swappedStores [.Tuple ts kt pt] (.Tuple es k2 pt2) X.env = pure none := by rfl)
    (h1 : (assignEach [.Tuple ts kt pt] X.env).map (·.2) = [assign (.Tuple ts kt pt) X.env] := by rfl) : PS X (.Assign [.Tuple ts kt pt] (.Tuple es k2 pt2) pos) (rs X.K X.mg E (sPar is ws)) := ps_imp (ps_asg (pe_tup ha) (pg_tup hc hg hn hst) hs hw h1) fun D σ H h => by
  obtain ⟨ρ, F, fps, Z, DD, st, sc, hw⟩ := rs_open h
  refine ⟨ρ, F, fps, Z, _, st, hw, sc.z, fun L ρ1 F1 H1 fps1 g q => ?_⟩
  have fin : ∀ {p : Addr} {o : HO}, H1 p = none → tgNs is (L.map (·.2.1)) σ (upd H1 p o) D.nx ∧ L.length = is.length := fun hp => names_go (g.stray hp) q fun ρ' σ' fps' g' z => sc.nx g' z
  refine ⟨?_, fun p hp => ⟨p, _, rfl, .inl (.inl upd_same), ?_, (fin hp).1⟩⟩
  · rw [List.length_map]
    have : L.length = is.length := by
      have go : ∀ {is : List Nat} {L : List Hd} {ρ1 : En}, setN is (L.map (·.1)) ρ1 DD.nx → L.length = is.length := by
        intro is
        induction is with
        | nil => intro L ρ1 q; cases L with
          | nil => rfl
          | cons => exact q.elim
        | cons i is ih => intro L ρ1 q; cases L with
          | nil => exact q.elim
          | cons x L => rw [List.length_cons, List.length_cons, ih q.2]
      exact go q
    rw [this, sizeLine_eq]; omega
  · rw [List.length_map]
    exact (fin (o := .tup []) hp).2
end DL

/-! sorted(d.items()) -/
namespace DL
open PySem PySem.Spec PyProof.Rows L2
def tupsH (H : Hp) (L : List (Addr × HO)) : Hp := L.foldl (fun H p => upd H p.1 p.2) H
theorem tupsH_off : ∀ (L : List (Addr × HO)) {H : Hp} {b : Addr}, b ∉ L.map (·.1) → tupsH H L b = H b
  | [], _, _, _ => rfl
  | p :: L, H, b, h => by
    rw [List.map_cons, List.mem_cons, not_or] at h
    exact (tupsH_off L h.2).trans (upd_ne h.1)
theorem tupsH_at : ∀ (L : List (Addr × HO)) {H : Hp}, (L.map (·.1)).Nodup → ∀ p ∈ L, tupsH H L p.1 = some p.2
  | [], _, _, p, h => nomatch h
  | q :: L, H, nd, p, h => by
    rw [List.map_cons, List.nodup_cons] at nd
    rcases List.mem_cons.mp h with rfl | h
    · exact (tupsH_off L nd.1).trans upd_same
    · exact tupsH_at L (H := upd H q.1 q.2) nd.2 p h
theorem tupsH_same : ∀ (L : List (Addr × HO)) {F H : Hp}, Same F H → Same (tupsH F L) (tupsH H L)
  | [], _, _, f => f
  | p :: L, F, H, f => tupsH_same L (F := upd F p.1 p.2) (H := upd H p.1 p.2) fun b u e => by
    by_cases hb : b = p.1
    · rw [hb, upd_same] at e ⊢; exact e
    · rw [upd_ne hb] at e ⊢; exact f _ _ e
theorem tupsH_grow (L : List (Addr × HO)) {F : Hp} (h : ∀ p ∈ L, F p.1 = none) : Same F (tupsH F L) := fun b u e => by
  rw [tupsH_off L]
  · exact e
  · intro hb
    obtain ⟨p, hp, rfl⟩ := List.mem_map.mp hb
    rw [h p hp] at e
    cases e
theorem tups_got {K : PySem.W.Frag} {ρ : En} {σ : Sg} {fps : Nat → Addr → Prop} : ∀ (L : List (Addr × HO)) {F H : Hp}, Sta K F H ρ σ fps → (L.map (·.1)).Nodup → (∀ p ∈ L, H p.1 = none) → GotS K ρ σ F H fps ρ σ (tupsH F L) (tupsH H L) fps
  | [], _, _, st, _, _ => .refl st
  | p :: L, F, H, st, nd, h => by
    rw [List.map_cons, List.nodup_cons] at nd
    have g := st.alloc (o := p.2) (h p List.mem_cons_self)
    exact g.trans (tups_got L g.st nd.2 fun q hq => by
      rw [upd_ne fun z => nd.1 (by rw [← z]; exact List.mem_map_of_mem hq)]
      exact h q (List.mem_cons_of_mem _ hq))
theorem tups_inv {X : Cx} {pins : List (Addr × Obj)} {σ : L2.St} {H0 : Hp} {s : Shared} {h' : Heap} {tk : Nat} (I0 : Inv X pins σ H0 s) : ∀ (L : List (Addr × HO)) {H1 : Hp}, Inv X pins σ H1 { s with heap := h', toks := tk } → (L.map (·.1)).Nodup →
    (∀ p ∈ L, s.heap.objs.size ≤ p.1 ∧ H1 p.1 = none ∧ ∀ H2, ObjOk X.prog X.w H2 h' p.1 p.2) → Inv X pins σ (tupsH H1 L) { s with heap := h', toks := tk }
  | [], _, I1, _, _ => I1
  | p :: L, H1, I1, nd, h => by
    rw [List.map_cons, List.nodup_cons] at nd
    obtain ⟨hb, hnone, ok⟩ := h p List.mem_cons_self
    have I2 : Inv X pins σ (upd H1 p.1 p.2) { s with heap := h', toks := tk } := I1.take (h' := h') (t' := tk) (fun b ob _ e => e) (I0.fpOk hb hnone) (ok _)
    exact tups_inv I0 L I2 nd.2 fun q hq => by
      obtain ⟨c1, c2, c3⟩ := h q (List.mem_cons_of_mem _ hq)
      exact ⟨c1, by show upd H1 p.1 p.2 q.1 = none; rw [upd_ne fun z => nd.1 (by rw [← z]; exact List.mem_map_of_mem hq)]; exact c2, c3⟩
theorem tupO_ok {P : Program} {w : World} {H : Hp} {h : Heap} {a : Addr} {o : Obj} {xs : List V} (e : h.get? a = some o) (t : ObjOk P w H h a (.tup xs)) : ObjOk P w H h a (tupO o xs) := by
  unfold tupO
  split
  · exact t
  · exact ⟨e, t⟩
abbrev ItR := Addr × DictEntry × V × V × PyData × PyData
def itO (b : ItR) : Obj := { cls := .type "tuple", data := .seq #[b.2.1.key, b.2.1.val] }
def itE (b : ItR) : PyData := .tuple [b.2.2.2.2.1, b.2.2.2.2.2]
def itL (bs : List ItR) : List (Addr × HO) := bs.map fun b => (b.1, tupO (itO b) [b.2.2.1, b.2.2.2.1])
theorem each_it : ∀ l : List ItR, PySem.W.EachIs (fun v (b : ItR) => v = Value.ref b.1) (l.map fun b => Value.ref b.1) l
  | [] => .nil
  | _ :: l => .cons rfl (each_it l)
theorem each_it2 {p : Value → ItR → Prop} : ∀ l : List ItR, (∀ b ∈ l, p (.ref b.1) b) → PySem.W.EachIs p (l.map fun b => Value.ref b.1) l
  | [], _ => .nil
  | b :: l, h => .cons (h b List.mem_cons_self) (each_it2 l fun c hc => h c (List.mem_cons_of_mem _ hc))
theorem vals_it : ∀ {l : List ItR} {out : List Value}, PySem.W.EachIs (fun v (b : ItR) => v = Value.ref b.1) out l → Vals (l.map fun b => V.ref b.1) out
  | _, _, .nil => .nil
  | _, _, .cons h t => .cons h (vals_it t)
theorem dq_it {K : PySem.W.Frag} {F : Hp} : ∀ l : List ItR, (∀ b ∈ l, Dq K F (.ref b.1) (itE b)) → DqAll K F (l.map fun b => V.ref b.1) (l.map itE)
  | [], _ => .nil
  | b :: l, h => .cons (h b List.mem_cons_self) (dq_it l fun c hc => h c (List.mem_cons_of_mem _ hc))
open PySem.Calls PySem.W in
theorem sorted_itm {X : Cx} {pins : List (Addr × Obj)} {σ : L2.St} {H F : Hp} {s : Shared} {r d : Addr} {es : Array DictEntry} {ep : Nat} {ks vs : List V} {D : List (PyData × PyData)} {Q : Value → Shared → Prop} (hc : X.calm = true) (hu : X.A.units + 101 < cLine) (I : Inv X pins σ H s) (f : Same F H)
    (hv : s.heap.IsItemsView r d) (hm : s.heap.DictRaw d es ep) (hn : es.size ≤ sizeLine) (rk : Vals ks (es.toList.map (·.key))) (rv : Vals vs (es.toList.map (·.val))) (dk : DqAll X.K F ks (D.map (·.1))) (dv : DqAll X.K F vs (D.map (·.2))) (so : sortOk (itmD D))
    (go : ∀ (L : List (Addr × HO)) (r' : Addr) (ys : List V) (s' : Shared), (L.map (·.1)).Nodup → (∀ p ∈ L, H p.1 = none) → tupsH H L r' = none → DqAll X.K (tupsH F L) ys (sortD (itmD D)) → Inv X pins σ (upd (tupsH H L) r' (.lst ys)) s' → Q (.ref r') s') :
    wpAny (model X.prog X.w) X.A (call (.builtin "sorted") [.ref r]) Q X.xe s := by
  have hh : X.A.handled = none := I.ok.hd hc
  refine _root_.DT.sortedI (es := es) (ep := ep) hh hv hm hn fun h' tk as hk hlt hl hG => ?_
  have lk : ks.length = es.size := by have := rk.length; rwa [List.length_map, Array.length_toList] at this
  have lv : vs.length = es.size := by have := rv.length; rwa [List.length_map, Array.length_toList] at this
  have lD : D.length = es.size := by have := dk.length; rw [List.length_map] at this; omega
  obtain ⟨bs, ebs⟩ : ∃ bs : List ItR, bs = List.zip as (List.zip es.toList (List.zip ks (List.zip vs D))) := ⟨_, rfl⟩
  have lb : bs.length = es.size := by rw [ebs]; simp only [List.length_zip, Array.length_toList]; omega
  have eas : bs.map (·.1) = as := by rw [ebs]; exact List.map_fst_zip (by simp only [List.length_zip, Array.length_toList]; omega)
  have eD : bs.map itE = itmD D := by
    have e1 : bs.map (fun b => b.2.2.2.2) = D := by
      rw [ebs]
      rw [show (fun b : ItR => b.2.2.2.2) = (fun t : V × PyData × PyData => t.2) ∘ (fun t : V × V × PyData × PyData => t.2) ∘ (fun t : DictEntry × V × V × PyData × PyData => t.2) ∘ fun t : ItR => t.2 from rfl]
      rw [← List.map_map, ← List.map_map, ← List.map_map, List.map_snd_zip (by simp only [List.length_zip, Array.length_toList]; omega), List.map_snd_zip (by simp only [List.length_zip, Array.length_toList]; omega), List.map_snd_zip (by simp only [List.length_zip, Array.length_toList]; omega), List.map_snd_zip (by omega)]
    unfold itmD
    rw [← e1, List.map_map]
    rfl
  have at_ : ∀ b ∈ bs, ∃ j, as[j]? = some b.1 ∧ es.toList[j]? = some b.2.1 ∧ ks[j]? = some b.2.2.1 ∧ vs[j]? = some b.2.2.2.1 ∧ D[j]? = some b.2.2.2.2 := fun b hb => by
    rw [ebs] at hb
    obtain ⟨j, hj⟩ := List.mem_iff_getElem?.mp hb
    obtain ⟨h1, h2⟩ := List.getElem?_zip_eq_some.mp hj
    obtain ⟨h2, h3⟩ := List.getElem?_zip_eq_some.mp h2
    obtain ⟨h3, h4⟩ := List.getElem?_zip_eq_some.mp h3
    obtain ⟨h4, h5⟩ := List.getElem?_zip_eq_some.mp h4
    exact ⟨j, h1, h2, h3, h4, h5⟩
  have nd : (bs.map (·.1)).Nodup := by rw [eas]; exact List.Pairwise.imp (fun h => Nat.ne_of_lt h) hG.rise
  have ndL : ((itL bs).map (·.1)).Nodup := by unfold itL; rw [List.map_map]; exact nd
  have ob : ∀ b ∈ bs, h'.get? b.1 = some (itO b) := fun b hb => by
    obtain ⟨j, h1, h2, _⟩ := at_ b hb
    obtain ⟨e, g1, g2⟩ := hG.pairs j _ h1
    rw [Array.getElem?_toList, g1] at h2
    rw [g2, Option.some.inj h2]
    rfl
  have fr : ∀ b ∈ bs, s.heap.objs.size ≤ b.1 := fun b hb => Nat.le_of_lt (hG.above _ (by rw [← eas]; exact List.mem_map_of_mem hb))
  have mL : ∀ p ∈ itL bs, ∃ b ∈ bs, p = (b.1, tupO (itO b) [b.2.2.1, b.2.2.2.1]) := fun p hp => by
    obtain ⟨b, hb, rfl⟩ := List.mem_map.mp hp
    exact ⟨b, hb, rfl⟩
  have frL : ∀ p ∈ itL bs, H p.1 = none := fun p hp => by
    obtain ⟨b, hb, rfl⟩ := mL p hp
    exact I.hok.fresh (fr b hb)
  have frF : ∀ p ∈ itL bs, F p.1 = none := fun p hp => by
    have := frL p hp
    cases e : F p.1 with
    | none => rfl
    | some u => rw [f _ _ e] at this; cases this
  have gr := tupsH_grow (itL bs) frF
  have rels : ∀ b ∈ bs, RelV b.2.2.1 b.2.1.key ∧ RelV b.2.2.2.1 b.2.1.val := fun b hb => by
    obtain ⟨j, _, h2, h3, h4, _⟩ := at_ b hb
    obtain ⟨y, y1, y2⟩ := L2.paired_get rk h3
    obtain ⟨z, z1, z2⟩ := L2.paired_get rv h4
    rw [List.getElem?_map, h2] at y1 z1
    rw [← Option.some.inj y1] at y2
    rw [← Option.some.inj z1] at z2
    exact ⟨y2, z2⟩
  have I1 : Inv X pins σ (tupsH H (itL bs)) { s with heap := h', toks := tk } := tups_inv I (itL bs) (I.kept hk) ndL fun p hp => by
    have hn := frL p hp
    obtain ⟨b, hb, rfl⟩ := mL p hp
    refine ⟨fr b hb, hn, fun H2 => tupO_ok (ob b hb) ⟨by show 2 ≤ sizeLine; decide, [b.2.1.key, b.2.1.val], .cons (rels b hb).1 (.cons (rels b hb).2 .nil), ⟨_, ob b hb, rfl, _, rfl⟩⟩⟩
  have f1 : Same (tupsH F (itL bs)) (tupsH H (itL bs)) := tupsH_same _ f
  have dq : ∀ b ∈ bs, Dq X.K (tupsH F (itL bs)) (.ref b.1) (itE b) := fun b hb => by
    obtain ⟨j, _, _, h3, h4, h5⟩ := at_ b hb
    obtain ⟨y, y1, y2⟩ := dk.get h3
    obtain ⟨z, z1, z2⟩ := dv.get h4
    rw [List.getElem?_map, h5] at y1 z1
    rw [← Option.some.inj y1] at y2
    rw [← Option.some.inj z1] at z2
    exact .tup ⟨itO b, rfl, tupsH_at (itL bs) ndL _ (List.mem_map_of_mem (f := fun b : ItR => (b.1, tupO (itO b) [b.2.2.1, b.2.2.2.1])) hb)⟩ (.cons (y2.mono gr) (.cons (z2.mono gr) .nil))
  have er : EachIs (fun v b => ∃ as, Reads h' v (itE b) as) (bs.map fun b => Value.ref b.1) bs := each_it2 bs fun b hb => Dq.reads I1 f1 (itE b) (.ref b.1) (.ref b.1) (dq b hb) rfl
  have evs : as.map Value.ref = bs.map fun b => Value.ref b.1 := by rw [← eas, List.map_map]; rfl
  rw [evs]
  obtain ⟨vs', hvs⟩ : ∃ vs' : List Value, (bs.map fun b => Value.ref b.1) = vs' := ⟨_, rfl⟩
  have e0 := each_it bs
  rw [hvs] at er e0 ⊢
  have hL : vs'.length ≤ sizeLine := by rw [← hvs, List.length_map, lb]; exact hn
  have ho : (h'.push (seqObj "list" vs'.toArray 0)).get? h'.objs.size = some (seqObj "list" vs'.toArray 0) := Heap.get?_push_size _ rfl
  have old : ∀ {b : Addr} {o : Obj}, h'.get? b = some o → (sortingHeap (h'.push (seqObj "list" vs'.toArray 0)) h'.objs.size vs').get? b = some o := fun {b o} q =>
    sortingHeap_old (Nat.ne_of_lt (Heap.lt_size q)) (Heap.get?_push_of_some _ q)
  have er' : EachIs (fun v b => ∃ as, Reads (sortingHeap (h'.push (seqObj "list" vs'.toArray 0)) h'.objs.size vs') v (itE b) as) vs' bs := er.mono fun _ _ ⟨as, r⟩ => ⟨as, PyProof.Rows.Reads.keeps (fun _ _ => old) r⟩
  have hU : ∀ b, b ∈ bs → X.A.units + 2 + (itE b).depth < cLine := fun b hb => by
    have : itE b ∈ itmD D := by rw [← eD]; exact List.mem_map_of_mem hb
    have := depthAll_mem this
    have := so.2.2
    omega
  have S := SortsAt.data (prog := X.prog) (w := X.w) (A := X.A.in1.in1) (s := { s with heap := sortingHeap (h'.push (seqObj "list" vs'.toArray 0)) h'.objs.size vs', toks := tk }) (each_map (R := fun v d => ∃ as, Reads (sortingHeap (h'.push (seqObj "list" vs'.toArray 0)) h'.objs.size vs') v d as) itE er') (by rw [eD]; exact so.1) (by rw [eD]; exact so.2.1) (bound_map hU)
  refine wpAny_call_entry_kw slot_list_sort ⟨_, ho, rfl⟩ entry_list_sort ?body (args_list_sort _)
  case body =>
    show wpAny (model X.prog X.w) X.A.in1.in1 (Builtin.«list.sort» ⟨[.ref h'.objs.size], []⟩) _ _ { s with heap := h'.push (seqObj "list" vs'.toArray 0), toks := tk }
    refine list_sort_vals (s := { s with heap := h'.push (seqObj "list" vs'.toArray 0), toks := tk }) (n := 0) ho S hL ⟨_, rfl, ?_⟩
    obtain ⟨n, hn'⟩ := sortedHeap_at (out := (sortVals (dataKind (sortingHeap (h'.push (seqObj "list" vs'.toArray 0)) h'.objs.size vs') (bs.map itE)) false vs' vs').toArray) ho
    have eo := sortVals_data false e0 er' (by rw [eD]; exact so.1)
    have keep : ∀ b o, h'.get? b = some o → (sortedHeap (h'.push (seqObj "list" vs'.toArray 0)) h'.objs.size vs' (sortVals (dataKind (sortingHeap (h'.push (seqObj "list" vs'.toArray 0)) h'.objs.size vs') (bs.map itE)) false vs' vs').toArray).get? b = some o := fun b o q => by
      have lt := Heap.lt_size q
      rw [sortedHeap_old (Nat.ne_of_lt lt) (by rw [size_push']; exact Nat.lt_succ_of_lt lt)]
      exact Heap.get?_push_of_some _ q
    have nr : tupsH H (itL bs) h'.objs.size = none := I1.hok.fresh (Nat.le_refl _)
    refine go (itL bs) _ ((bs.mergeSort (dataLe false itE)).map fun b => V.ref b.1) _ ndL frL nr ?_ (I1.laid (t' := tk) (o := .lst ((bs.mergeSort (dataLe false itE)).map fun b => V.ref b.1)) keep (Nat.le_refl _) (show ObjOk X.prog X.w _ _ _ (.lst _) from ⟨by rw [List.length_map, List.length_mergeSort, lb]; exact hn, _, n, vals_it eo, hn'⟩))
    have e3' := List.map_mergeSort (r := PySem.W.dataLe false itE) (s := PySem.W.dataLe false id) (f := itE) (l := bs) (fun _ _ _ _ => rfl)
    rw [eD] at e3'
    unfold sortD
    rw [← e3']
    exact dq_it _ fun b hb => dq b (List.mem_mergeSort.mp hb)
theorem paired_of {α β : Type} {R : α → β → Prop} : ∀ {xs : List α} {ys : List β}, xs.length = ys.length → (∀ (i : Nat) (x : α) (y : β), xs[i]? = some x → ys[i]? = some y → R x y) → Paired R xs ys
  | [], [], _, _ => .nil
  | x :: xs, y :: ys, h, g => .cons (g 0 x y rfl rfl) (paired_of (by simpa using h) fun i x y hx hy => g (i + 1) x y (by simpa using hx) (by simpa using hy))
  | [], _ :: _, h, _ => by cases h
  | _ :: _, [], h, _ => by cases h
/-- what a dict is, its values as data -/
def DcD (K : PySem.W.Frag) (F H : Hp) (a : Addr) (D : List (PyData × PyData)) : Prop :=
  (∃ (ws : List (Key × V)) (kvs : List (Key × PyData)), Rd H a (.dK ws) ∧ ws.map (·.1) = kvs.map (·.1) ∧ DqAll K F (ws.map (·.2)) (kvs.map (·.2)) ∧ D = entK kvs) ∨
  ∃ (ws : List (List Key × V)) (kvs : List (List Key × PyData)), Rd H a (.dT ws) ∧ ws.map (·.1) = kvs.map (·.1) ∧ DqAll K F (ws.map (·.2)) (kvs.map (·.2)) ∧ D = entT kvs
/-- F grows by tuples that stand already -/
structure FzT (F H F2 : Hp) : Prop where
  gr : Same F F2
  sb : Same F2 H
  new : ∀ b, F b = none → F2 b ≠ none → ∃ xs, H b = some (.tup xs)
theorem FzT.got {K : PySem.W.Frag} {F H F2 : Hp} {ρ : En} {σ : Sg} {fps : Nat → Addr → Prop} (z : FzT F H F2) (st : Sta K F H ρ σ fps) : GotS K ρ σ F H fps ρ σ F2 H fps := by
  refine ⟨⟨z.gr, fun b eb eb' => .inr (.inr (z.new b eb eb')), fun b o eb _ => eb, fun b z => .inl z⟩, ⟨⟨z.sb, fun b hb => ?_, st.wf.dom⟩, st.rs.stay z.gr fun _ _ => rfl⟩, .refl⟩
  cases e : F2 b with
  | none => rfl
  | some u =>
    obtain ⟨xs, h⟩ := z.new b (st.wf.out b hb) (by rw [e]; exact fun y => nomatch y)
    exact absurd h (st.nt hb xs)
section
variable {X : Cx} {pins : List (Addr × Obj)} {σ : L2.St} {H F : Hp} {s : Shared} {a : Addr} {D : List (PyData × PyData)}
theorem DcD.raw (I : Inv X pins σ H s) (f : Same F H) (h : DcD X.K F H a D) : (a == sysModules) = false ∧ ∃ (es : Array DictEntry) (ep : Nat) (ks vs : List V) (F2 : Hp), s.heap.DictRaw a es ep ∧ es.size ≤ sizeLine ∧ Vals ks (es.toList.map (·.key)) ∧ Vals vs (es.toList.map (·.val)) ∧ FzT F H F2 ∧ DqAll X.K F2 ks (D.map (·.1)) ∧ DqAll X.K F2 vs (D.map (·.2)) := by
  rcases h with ⟨ws, kvs, hr, ek, dv, rfl⟩ | ⟨ws, kvs, hr, ek, dv, rfl⟩
  · obtain ⟨z, hs, vs, kv, hd⟩ := dk_rd I.hok hr
    obtain ⟨es, ep, raw, sz, ent⟩ := Heap.DictOf.raw hd
    have lv : ws.length = vs.length := Paired.length kv
    have key : ∀ i (hi : i < es.size), ∃ p q, ws[i]? = some p ∧ vs[i]? = some q ∧ RelV (kV p.1) es[i].key ∧ RelV p.2 es[i].val := fun i hi => by
      have h1 : i < ws.length := by omega
      have h2 : i < vs.length := by omega
      obtain ⟨q, e2, e3, e4⟩ := L2.paired_get kv (List.getElem?_eq_getElem h1)
      obtain ⟨a1, a2⟩ := ent i hi q.1 q.2 e2
      exact ⟨_, q, List.getElem?_eq_getElem h1, e2, by rw [e3]; exact relV_key a1, by rw [a2]; exact e4⟩
    refine ⟨hs, es, ep, ws.map fun p => kV p.1, ws.map (·.2), F, raw, by omega, ?_, ?_, ⟨.refl _, f, fun b e e' => absurd e e'⟩, ?_, ?_⟩
    · refine paired_of (by rw [List.length_map, List.length_map]; have := Array.length_toList (xs := es); omega) fun i x y hx hy => ?_
      rw [List.getElem?_map] at hx hy
      rw [Array.getElem?_toList] at hy
      cases he : es[i]? with
      | none => rw [he] at hy; cases hy
      | some e =>
        obtain ⟨hi, rfl⟩ := Array.getElem?_eq_some_iff.mp he
        obtain ⟨p, q, e1, e2, e3, e4⟩ := key i hi
        rw [e1] at hx
        rw [he] at hy
        cases hx; cases hy
        exact e3
    · refine paired_of (by rw [List.length_map, List.length_map]; have := Array.length_toList (xs := es); omega) fun i x y hx hy => ?_
      rw [List.getElem?_map] at hx hy
      rw [Array.getElem?_toList] at hy
      cases he : es[i]? with
      | none => rw [he] at hy; cases hy
      | some e =>
        obtain ⟨hi, rfl⟩ := Array.getElem?_eq_some_iff.mp he
        obtain ⟨p, q, e1, e2, e3, e4⟩ := key i hi
        rw [e1] at hx
        rw [he] at hy
        cases hx; cases hy
        exact e4
    · have e1 : (ws.map fun p => kV p.1) = (kvs.map (·.1)).map kV := by rw [← ek, List.map_map]; rfl
      have e2 : (entK kvs).map (·.1) = (kvs.map (·.1)).map kP := by unfold entK; rw [List.map_map, List.map_map]; rfl
      rw [e1, e2]
      exact DqAll.of_map fun k _ => by cases k with
        | inl i => exact .int i
        | inr x => exact .str x
    · have e2 : (entK kvs).map (·.2) = kvs.map (·.2) := by unfold entK; rw [List.map_map]; rfl
      rw [e2]; exact dv
  · obtain ⟨z, hs, xs, kt, hd⟩ := dt_rd I.hok hr
    obtain ⟨es, ep, raw, sz, ent⟩ := Heap.DictOfH.raw hd
    have lv : ws.length = xs.length := Paired.length kt
    obtain ⟨F2, hF2⟩ : ∃ F2 : Hp, F2 = fun b => match F b with
      | some u => some u
      | none => if b ∈ xs.map (·.2.1) then H b else none := ⟨_, rfl⟩
    have key : ∀ i (hi : i < es.size), ∃ p y, ws[i]? = some p ∧ xs[i]? = some y ∧ es[i].key = .ref y.2.1 ∧ H y.2.1 = some (.tup (p.1.map kV)) ∧ RelV p.2 es[i].val := fun i hi => by
      have h1 : i < ws.length := by omega
      obtain ⟨q, e2, e3, e4, e5⟩ := L2.paired_get kt (List.getElem?_eq_getElem h1)
      obtain ⟨y, y1, y2, y3, _⟩ := ent i hi
      rw [e2] at y1
      cases y1
      exact ⟨_, q, List.getElem?_eq_getElem h1, e2, y2, e4, by rw [y3]; exact e5⟩
    have at2 : ∀ b, b ∈ xs.map (·.2.1) → F2 b = H b := fun b hb => by
      rw [hF2]
      dsimp only
      cases e : F b with
      | none => exact if_pos hb
      | some u => exact (f _ _ e).symm
    have fz : FzT F H F2 := by
      refine ⟨fun b u e => by rw [hF2]; dsimp only; rw [e], fun b u e => ?_, fun b e e' => ?_⟩
      · rw [hF2] at e
        dsimp only at e
        cases e1 : F b with
        | some v => rw [e1] at e; cases e; exact f _ _ e1
        | none =>
          rw [e1] at e
          dsimp only at e
          split at e
          · exact e
          · cases e
      · rw [hF2] at e'
        dsimp only at e'
        rw [e] at e'
        dsimp only at e'
        split at e'
        · rename_i hb
          obtain ⟨x, hx, rfl⟩ := List.mem_map.mp hb
          exact ⟨_, kt_mem kt x hx⟩
        · exact absurd rfl e'
    refine ⟨hs, es, ep, xs.map fun x => V.ref x.2.1, ws.map (·.2), F2, raw, by omega, ?_, ?_, fz, ?_, ?_⟩
    · refine paired_of (by rw [List.length_map, List.length_map]; have := Array.length_toList (xs := es); omega) fun i x y hx hy => ?_
      rw [List.getElem?_map] at hx hy
      rw [Array.getElem?_toList] at hy
      cases he : es[i]? with
      | none => rw [he] at hy; cases hy
      | some e =>
        obtain ⟨hi, rfl⟩ := Array.getElem?_eq_some_iff.mp he
        obtain ⟨p, q, e1, e2, e3, e4, e5⟩ := key i hi
        rw [e2] at hx
        rw [he] at hy
        cases hx; cases hy
        exact e3
    · refine paired_of (by rw [List.length_map, List.length_map]; have := Array.length_toList (xs := es); omega) fun i x y hx hy => ?_
      rw [List.getElem?_map] at hx hy
      rw [Array.getElem?_toList] at hy
      cases he : es[i]? with
      | none => rw [he] at hy; cases hy
      | some e =>
        obtain ⟨hi, rfl⟩ := Array.getElem?_eq_some_iff.mp he
        obtain ⟨p, q, e1, e2, e3, e4, e5⟩ := key i hi
        rw [e1] at hx
        rw [he] at hy
        cases hx; cases hy
        exact e5
    · have e2 : (entT kvs).map (·.1) = xs.map fun x => tP x.1 := by
        unfold entT
        rw [List.map_map]
        have := kt_keys kt
        rw [ek] at this
        have := congrArg (List.map tP) this
        rw [List.map_map, List.map_map] at this
        exact this
      rw [e2]
      have g : ∀ l : List (List Key × Addr × Value), (∀ x ∈ l, F2 x.2.1 = some (.tup (x.1.map kV))) → DqAll X.K F2 (l.map fun x => V.ref x.2.1) (l.map fun x => tP x.1) := fun l => by
        induction l with
        | nil => intro _; exact .nil
        | cons x l ih => intro hx; exact .cons (dq_key (hx x List.mem_cons_self)) (ih fun y hy => hx y (List.mem_cons_of_mem _ hy))
      exact g _ fun x hx => by rw [at2 _ (List.mem_map_of_mem (f := fun x : List Key × Addr × Value => x.2.1) hx)]; exact kt_mem kt x hx
    · have e2 : (entT kvs).map (·.2) = kvs.map (·.2) := by unfold entT; rw [List.map_map]; rfl
      rw [e2]; exact dv.mono fz.gr
end
def tSI (K : PySem.W.Frag) (te : TE) : TE := fun σ H Q => te σ H fun x H1 => ∃ (F : Hp) (a : Addr) (D : List (PyData × PyData)), x = .ref a ∧ Same F H1 ∧ DcD K F H1 a D ∧ sortOk (itmD D) ∧
  ∀ (F2 : Hp) (L : List (Addr × HO)) (r : Addr) (ys : List V), FzT F H1 F2 → (L.map (·.1)).Nodup → (∀ p ∈ L, H1 p.1 = none) → tupsH H1 L r = none → DqAll K (tupsH F2 L) ys (sortD (itmD D)) → Q (.ref r) (upd (tupsH H1 L) r (.lst ys))
theorem pe_sitems {X : Cx} {e : Expr} {te : TE} {p apos cpos pos : Pos} (hg : Gl X "sorted") (hm : X.mg "sorted" = none) (hc : X.calm = true) (hu : X.A.units + 101 < cLine) (he : PE X e te)
    (hbase : attributeBase e "items" X.env (eval e X.env) = eval e X.env := by rfl) (hline : (apos.endLine == cpos.line) = true := by rfl) : PE X (.Call (.Name "sorted" p) [.Call (.Attribute e "items" apos) [] [] cpos] [] pos) (tSI X.K te) := by
  refine ⟨fun pins s σ H Q I h => ?_⟩
  refine Call_ (ld_blt I hg hm boot_sorted ?_)
  refine PyProof.Rows.callWith_builtin1 (PyProof.Rows.args_cons ?_ rfl) rfl rfl
  refine wpAny_Call_method (T := "dict") (id := "dict.items") hbase rfl hline F.plainAttrs_dict F.slot_dict_items F.type_dict_items (thn (he.run pins s σ H _ I h) fun u s1 ⟨x, H1, I1, rx, F, d, D, ex, f, dc, so, go⟩ => ?_)
  subst ex
  obtain rfl : u = Value.ref d := rx
  obtain ⟨hs, es, ep, ks, vs, F2, raw, sz, rk, rv, fz, dk, dv⟩ := dc.raw I1 f
  have hd : ∀ o, s1.heap.get? d = some o → True := fun _ _ => trivial
  have I2 : Inv X pins σ H1 { s1 with heap := s1.heap.push { cls := .type "dict_items", data := .fields #[.ref d] } } := I1.kept (t' := s1.toks) fun b ob q => Heap.get?_push_of_some _ q
  obtain ⟨od, h1, h2, h3⟩ := id raw
  refine ⟨raw.typeIs, fun a ea => by cases ea; exact ⟨_, h1, h2.2.1⟩, ?_⟩
  have fin : wpAny (model X.prog X.w) X.A (call (.builtin "sorted") [.ref s1.heap.objs.size]) (EP X pins σ Q) X.xe { s1 with heap := s1.heap.push { cls := .type "dict_items", data := .fields #[.ref d] } } :=
    sorted_itm hc hu I2 fz.sb ⟨_, Heap.get?_push_size _ rfl, rfl, rfl⟩ (raw.at fun o e => Heap.get?_push_of_some _ e) sz rk rv dk dv so fun L r' ys s' nd fr nr dq J => ⟨.ref r', _, J, rfl, go F2 L r' ys fz nd fr nr dq⟩
  show wpAny _ _ (callWith cpos (.builtin "dict.items") [.ref d] [] []) _ X.xe s1
  exact method_meetsIn PySem.F.slot_dict_items PySem.F.entry_dict_items rfl (PySem.evalArgs_none ⟨rfl, raw.typeIs, PySem.F.args_dict_items_1 _, _, meets_dict_items_raw d hs, ⟨_, _, raw⟩, PyProof.Rows.args_nil fin⟩)
/-- sorted(d.items()) -/
def wSI (wa : WX) : WE := fun Z ρ Q => wa Z ρ fun a ρ1 => lkD ρ1 a fun d => ∃ D, d = .dict D ∧ sortOk (itmD D) ∧ Q (.lst (sortD (itmD D))) ρ1
theorem d_SI {X : Cx} {E : EX} {e : Expr} {wa : WX} {p apos cpos pos : Pos} (hc : X.calm = true) (hu : X.A.units + 101 < cLine) (hg : Gl X "sorted") (hm : X.mg "sorted" = none) (ha : PE X e (rx X.K X.mg E wa))
    (hbase : attributeBase e "items" X.env (eval e X.env) = eval e X.env := by rfl) (hline : (apos.endLine == cpos.line) = true := by rfl) : PE X (.Call (.Name "sorted" p) [.Call (.Attribute e "items" apos) [] [] cpos] [] pos) (rd X.K X.mg E (wSI wa)) := pe_imp (pe_sitems hg hm hc hu ha hbase hline) fun σ H Q ⟨ρ, F, fps, Z, Qd, st, hw, zc, k⟩ => by
  refine ⟨ρ, F, fps, Z, _, st, hw, zc, fun a v1 ρ1 F1 H1 fps1 g1 q1 h1 => ?_⟩
  obtain ⟨d, ⟨D, rfl, so, h3⟩, l1⟩ := lk_rel g1.st.rs q1 h1
  obtain ⟨b, rfl, dc⟩ := dct_lk g1.st.wf.sub l1
  refine ⟨F1, b, D, rfl, g1.st.wf.sub, ?_, so, fun F2 L r ys fz nd fr nr dq => ?_⟩
  · rcases dc with ⟨ws, kvs, a1, a2, a3, a4, _⟩ | ⟨ws, kvs, a1, a2, a3, a4⟩
    · exact .inl ⟨ws, kvs, a1, a2, a3, a4⟩
    · exact .inr ⟨ws, kvs, a1, a2, a3, a4⟩
  · have g2 := g1.trans (fz.got g1.st)
    have g3 := g2.trans (tups_got L g2.st nd fr)
    exact k _ _ _ _ _ _ _ (.after g3 (.lst g3.st nr dq)) h3
end DL

/-! own dicts: get, walked by their keys, of pairs -/
namespace DL
open PySem PySem.Spec PyProof.Rows L2
/-- what a thing holds at y -/
def vN (n : N) (y : PyData) (k : Option PyData → Prop) : Prop := match n with
  | .dK kvs => ∃ key, y = kP key ∧ k (valP kvs key)
  | .dT kvs => ∃ key, y = tP key ∧ k (valP kvs key)
  | .dl kvs => ∃ key, y = kP key ∧ k (valP kvs key)
  | _ => False
def isDN (ρ : En) (i : Nat) : Prop := match ρ[i]? with
  | some (.v (.dK _)) => True
  | some (.v (.dT _)) => True
  | some (.v (.dl _)) => True
  | some (.p (.dK _)) => True
  | some (.p (.dT _)) => True
  | _ => False
section
variable {K : PySem.W.Frag} {F H : Hp} {ρ : En} {σ : Sg} {fps : Nat → Addr → Prop} {v1 v2 : V} {y : PyData} {n : N} {fp : Addr → Prop}
theorem dgetN {k : Option PyData → Prop} (s : Same F H) (rn : RelN K F H n v1 fp) (l2 : Lk K F H v2 y) (h : vN n y k) : ∃ a o r, v1 = .ref a ∧ DGet H a v2 o ∧ k r ∧ ((o = none ∧ r = none) ∨ ∃ v d, o = some v ∧ r = some d ∧ Dq K F v d) := by
  cases n with
  | dK kvs =>
    obtain ⟨key, rfl, hk⟩ := h
    obtain ⟨a, ws, rfl, _, ha, ek, q⟩ := rn
    exact ⟨a, _, _, rfl, (key_lk l2) ▸ .inl ⟨_, _, .inl ha, rfl, rfl⟩, hk, val_rel key ek q⟩
  | dT kvs =>
    obtain ⟨key, rfl, hk⟩ := h
    obtain ⟨a, ws, rfl, _, ha, ek, q⟩ := rn
    obtain ⟨b, rfl, hb⟩ := tkey_lk s l2
    exact ⟨a, _, _, rfl, .inr ⟨_, _, _, .inl ha, rfl, hb, rfl⟩, hk, val_rel key ek q⟩
  | dl kvs =>
    obtain ⟨key, rfl, hk⟩ := h
    obtain ⟨_, a, od, ws, rfl, ha, ek, q⟩ := rn
    exact ⟨a, _, _, rfl, (key_lk l2) ▸ .inl ⟨_, _, .inr ⟨od, s _ _ ha⟩, rfl, rfl⟩, hk, val_rel key ek q⟩
  | _ => exact h.elim
theorem isDN_of {i : Nat} (s : Same F H) (r : RelS K F H ρ σ fps) (h : isDN ρ i) : ∃ a, σ[i]? = some (some (.ref a)) ∧ IsD H a := by
  unfold isDN at h
  split at h <;> first | exact h.elim | rename_i e
  · obtain ⟨v, hv, a, ws, rfl, _, ha, _⟩ := r.rel i _ (.inl e); exact ⟨a, hv, .inl ⟨_, .inl ha⟩⟩
  · obtain ⟨v, hv, a, ws, rfl, _, ha, _⟩ := r.rel i _ (.inl e); exact ⟨a, hv, .inr ⟨_, .inl ha⟩⟩
  · obtain ⟨v, hv, _, a, od, ws, rfl, ha, _⟩ := r.rel i _ (.inl e); exact ⟨a, hv, .inl ⟨_, .inr ⟨od, s _ _ ha⟩⟩⟩
  · obtain ⟨v, hv, a, ws, rfl, _, ha, _⟩ := r.rel i _ (.inr e); exact ⟨a, hv, .inl ⟨_, .inl ha⟩⟩
  · obtain ⟨v, hv, a, ws, rfl, _, ha, _⟩ := r.rel i _ (.inr e); exact ⟨a, hv, .inr ⟨_, .inl ha⟩⟩
end
/-- d.get(k, x), d an own dict -/
def wGtN (i : Nat) (wb wf : WX) : WE := fun Z ρ Q => isDN ρ i ∧ wb Z ρ fun b ρ2 => wf Z ρ2 fun c ρ3 => match c with
  | .d z => lkD ρ3 b fun y => ownN ρ3 i fun n => vN n y fun r => Q (.dat (r.getD z)) ρ3
  | .o _ => False
theorem d_gtN {X : Cx} {E : EX} {i : Nat} {x : Str} {p apos cpos : Pos} {b f : Expr} {wb wf : WX} (hu : X.A.units + 1 < cLine) (ho : PE X (.Name x p) (tVar i)) (hb : PE X b (rx X.K X.mg E wb)) (hf : PE X f (rx X.K X.mg E wf)) (m : M2 X (.Name x p) "get" apos b f cpos) :
    PE X (.Call (.Attribute (.Name x p) "get" apos) [b, f] [] cpos) (rd X.K X.mg E (wGtN i wb wf)) :=
  pe_imp (pe_dget2 hu ho hb hf m) fun σ H Q ⟨ρ, F, fps, Z, Qd, st, hw, zc, k⟩ => by
    obtain ⟨h0, hw⟩ := hw
    obtain ⟨a, hv, hd⟩ := isDN_of st.wf.sub st.rs h0
    refine ⟨.ref a, hv, a, rfl, hd, ρ, F, fps, Z, _, st, hw, zc, fun y v2 ρ2 F2 H2 fps2 g2 q2 h2 => ?_⟩
    refine ⟨ρ2, F2, fps2, Z, _, g2.st, h2, zc.step g2, fun c v3 ρ3 F3 H3 fps3 g3 q3 h3 => ?_⟩
    cases q3 with
    | o => exact h3.elim
    | d q3 =>
    obtain ⟨dy, h4, ly⟩ := lk_rel g3.st.rs (q2.mono g3.tr.grow) h3
    obtain ⟨n, v', _, hn, hv', rn⟩ := ownN_of g3.st.rs h4
    rw [hv] at hv'
    cases hv'
    obtain ⟨a', o, r, e, g, hk, z⟩ := dgetN g3.st.wf.sub rn ly hn
    cases e
    refine ⟨o, g, ?_⟩
    rcases z with ⟨rfl, rfl⟩ | ⟨v, d, rfl, rfl, dq⟩
    · exact k _ _ _ _ _ _ _ (.after (g2.trans g3) (.here g3.st q3)) hk
    · exact k _ _ _ _ _ _ _ (.after (g2.trans g3) (.here g3.st dq)) hk
/-! dict(pairs) of numbers or texts -/
theorem pairsK {K : PySem.W.Frag} {F H : Hp} (f : Same F H) : ∀ {vs : List V} {kvs : List (Key × PyData)}, DqAll K F vs (kvs.map pairK) →
    ∃ (ps : List Addr) (ws : List (Key × V)), vs = ps.map V.ref ∧ Paired (fun p (kv : Key × V) => SqT K H p [kV kv.1, kv.2]) ps ws ∧ ws.map (·.1) = kvs.map (·.1) ∧ DqAll K F (ws.map (·.2)) (kvs.map (·.2))
  | _, [], q => by cases q; exact ⟨[], [], rfl, .nil, rfl, .nil⟩
  | _, (key, d) :: kvs, q => by
    cases q with
    | cons q qs =>
      obtain ⟨ps, ws, e1, e2, e3, e4⟩ := pairsK f qs
      cases q with
      | @tup T _ _ h t =>
        cases t with
        | cons t1 t =>
          cases t with
          | @cons w2 _ _ _ t2 t =>
            cases t
            obtain rfl := key_lk (F := F) (H := F) (.d t1)
            exact ⟨T :: ps, (key, w2) :: ws, by rw [e1]; rfl, .cons (TupAt.mono f h).sq e2, by rw [List.map_cons, List.map_cons, e3], .cons t2 e4⟩
def bDctK : OB := fun ds k => match ds with
  | [.list xs] => ∃ kvs : List (Key × PyData), xs = kvs.map pairK ∧ k (.dK (putAll [] kvs))
  | _ => False
theorem bd_dctK {X : Cx} (hc : X.calm = true) : BD X (.type "dict") bDctK := ⟨_, call_dictP hc, fun {F H ds vs k Q'} s l ho go => by
  unfold bDctK at ho
  split at ho
  · obtain ⟨kvs, rfl, hk⟩ := ho
    obtain ⟨v, rfl, q⟩ := lk1 l
    obtain ⟨a, xs, rfl, h, t⟩ := lstH s q
    obtain ⟨ps, ws, rfl, e2, e3, e4⟩ := pairsK s t
    obtain ⟨r1, r2⟩ := puts_rel (K := X.K) (F := F) (aw := ([] : List (Key × V))) (ak := []) rfl .nil e3 e4
    exact ⟨a, ps, ws, rfl, SqL.of h, e2, fun p hp => go _ _ _ _ _ (.dK hp r1 r2) hk⟩
  · exact ho.elim⟩
/-! for k in d -/
def iKeyL (td : TE) : TI := fun σ H R => td σ H fun x H1 => ∃ d kvs, x = .ref d ∧ ((H1 d = some (.dK kvs) ∧ ∀ od, R (Itk d od kvs) (upd H1 d (.frz od (.dK kvs)))) ∨ ∃ od, H1 d = some (.frz od (.dK kvs)) ∧ R (Itk d od kvs) H1)
theorem pi_keyL {X : Cx} {tg e : Expr} {td : TE} (he : PE X e td) : PI X tg e (iKeyL td) := by
  refine ⟨fun pins s σ H R I h => ?_⟩
  refine thn (he.run pins s σ H _ I h) fun u s1 ⟨x, H1, I0, rx, d, kvs, ex, q⟩ => ?_
  subst ex
  obtain rfl : u = Value.ref d := rx
  have go : ∀ {od H2}, Inv X pins σ H2 s1 → H2 d = some (.frz od (.dK kvs)) → R (Itk d od kvs) H2 → wpAny (model X.prog X.w) X.A (pyIter (.ref d)) (PIE X pins σ tg R) X.xe s1 := fun {od H2} I1 hd q => by
    obtain ⟨hs, hgd, hx, es, ep, vs, hdt, hsz, kv, hm⟩ := I1.frzK hd
    refine iter_keys hs hgd hx hdt (pi_one (tk := s1.toks) I1 _ (turn_keys _ hdt) ⟨_, Heap.get?_push_size _ rfl, rfl, ?_⟩ q)
    rw [hsz] <;> rfl
  rcases q with ⟨hd, q⟩ | ⟨od, hd, q⟩
  · obtain ⟨od, I1⟩ := I0.lock hd trivial
    exact go I1 upd_same (q od)
  · exact go I0 hd q
theorem strm_k {l : Bool} {K : PySem.W.Frag} {F : Hp} {a : Addr} {od : Obj} {ws : List (Key × V)} {kvs : List (Key × PyData)} (h : F a = some (.frz od (.dK ws))) (ek : ws.map (·.1) = kvs.map (·.1)) : Strm l K F (Itk a od ws) (kvs.map fun p => kP p.1) := by
  have el : ws.length = kvs.length := by have := congrArg List.length ek; rwa [List.length_map, List.length_map] at this
  refine ⟨fun s1 s2 => ⟨s2 _ _ (s1 _ _ h), by rw [List.length_map, el]; exact Nat.le_refl _⟩, fun hi s1 s2 => ⟨s2 _ _ (s1 _ _ h), by rw [List.length_map] at hi; rw [el]; exact hi⟩, fun {i d F' H x H'} hd s1 s2 y => ?_⟩
  obtain ⟨rfl, k, v, hw, rfl⟩ := y
  have e1 : (ws.map (·.1))[i]? = some k := by rw [List.getElem?_map, hw]; rfl
  rw [ek, List.getElem?_map] at e1
  rw [List.getElem?_map] at hd
  cases e : kvs[i]? with
  | none => rw [e] at e1; cases e1
  | some p =>
    rw [e] at e1 hd
    cases e1; cases hd
    obtain ⟨key, dv⟩ := p
    exact strm_d (by cases key with | inl i => exact .int i | inr x => exact .str x)
section
variable {K : PySem.W.Frag} {σ : Sg} {F H : Hp} {fps : Nat → Addr → Prop} {ρ : En}
theorem RelS.putF {i : Nat} {n : N} {v : V} (r : RelS K F H ρ σ fps) (hi : i < ρ.length) (he : fps i = Nil) (hv : σ[i]? = some (some v)) (q : RelN K F H n v Nil) : RelS K F H (ρ.set i (.v n)) σ fps := by
  refine ⟨by rw [List.length_set]; exact r.len, fun j m e => ?_, fun j h1 h2 => ?_, r.dis⟩
  · by_cases ej : i = j
    · subst ej
      rw [List.getElem?_set_self hi] at e
      rcases e with e | e
      · cases e; exact ⟨v, hv, by rw [he]; exact q⟩
      · cases e
    · rw [List.getElem?_set_ne ej] at e
      exact r.rel j m e
  · by_cases ej : i = j
    · subst ej
      exact absurd (List.getElem?_set_self hi) (h1 _)
    · refine r.emp j (fun n => ?_) fun n => ?_
      · have := h1 n; rw [List.getElem?_set_ne ej] at this; exact this
      · have := h2 n; rw [List.getElem?_set_ne ej] at this; exact this
/-- an own dict is locked where it stands -/
theorem Sta.lockK {i : Nat} {kvs : List (Key × PyData)} (s : Sta K F H ρ σ fps) (h : ρ[i]? = some (.v (.dK kvs))) : ∃ a ws, σ[i]? = some (some (.ref a)) ∧ H a = some (.dK ws) ∧ ws.map (·.1) = kvs.map (·.1) ∧ ∀ od,
    GotS K ρ σ F H fps (ρ.set i (.v (.dl kvs))) σ (upd F a (.frz od (.dK ws))) (upd H a (.frz od (.dK ws))) (setF fps i Nil) := by
  obtain ⟨v, hv, rn⟩ := s.rs.rel i _ (.inl h)
  have g := s.move h hv rn
  obtain ⟨a, ws, rfl, ef, ha, ek, q⟩ := rn
  have fi : fps i a := by rw [ef]; rfl
  have fa : F a = none := s.wf.out a ⟨i, fi⟩
  refine ⟨a, ws, hv, ha, ek, fun od => ?_⟩
  have gr : Same F (upd F a (.frz od (.dK ws))) := fun b u e => by rw [upd_ne (ne_of_none e fa)]; exact e
  have nb : ∀ b, Ow (setF fps i Nil) b → b ≠ a := fun b z e => g.ap a (by rw [ef]; rfl) (e ▸ z)
  have hi : i < ρ.length := (List.getElem?_eq_some_iff.mp h).1
  have q2 := q.mono gr
  refine ⟨⟨gr, fun b e e' => ?_, fun b o e no => ?_, fun b z => g.tr.sub b (.inl z)⟩, ⟨⟨fun b u e => ?_, fun b z => ?_, fun b z => ?_⟩, ?_⟩, fun j m e => ⟨?_, rfl⟩⟩
  · by_cases hb : b = a
    · subst hb; exact .inl ⟨i, fi⟩
    · rw [upd_ne hb] at e'; exact absurd e e'
  · rw [upd_ne fun z => no ⟨i, by rw [z]; exact fi⟩]; exact e
  · by_cases hb : b = a
    · subst hb; rw [upd_same] at e ⊢; exact e
    · rw [upd_ne hb] at e ⊢; exact s.wf.sub b u e
  · rw [upd_ne (nb b z)]; exact g.wf.out b (.inl z)
  · rw [upd_ne (nb b z)]; exact g.wf.dom b (.inl z)
  · have r := g.rs.stay (H' := upd H a (.frz od (.dK ws))) gr fun b hb => upd_ne (nb b hb)
    have r := r.putF (i := i) (n := .dl kvs) (by rw [List.length_set]; exact hi) (setF_same' rfl) hv ⟨rfl, a, od, ws, rfl, upd_same, ek, q2⟩
    rwa [List.set_set] at r
  · by_cases ej : i = j
    · subst ej; rw [h] at e; cases e
    · rw [List.getElem?_set_ne ej]; exact ⟨m, e⟩
end
/-- for k in d, d an own dict: locked from there on -/
def iKeyN (i : Nat) : WI := fun _ ρ Q => match ρ[i]? with
  | some (.v (.dK kvs)) => Q (kvs.map fun p => kP p.1) (ρ.set i (.v (.dl kvs)))
  | some (.v (.dl kvs)) => Q (kvs.map fun p => kP p.1) ρ
  | _ => False
theorem i_keyN {l : Bool} {X : Cx} {E : EX} {i : Nat} {x : Str} {p : Pos} {tg : Expr} (h : PE X (.Name x p) (tVar i)) :
    PI X tg (.Name x p) (riB l X.K X.mg E (iKeyN i)) := pi_imp (pi_keyL h) fun σ H R ⟨ρ, F, fps, Z, Qd, st, hw, zc, k⟩ => by
  unfold iKeyN at hw
  cases e : ρ[i]? with
  | none => rw [e] at hw; exact hw.elim
  | some sl =>
    rw [e] at hw
    cases sl with
    | e => exact hw.elim
    | p n => exact hw.elim
    | v n =>
      cases n with
      | dK kvs =>
        obtain ⟨a, ws, hv, ha, ek, go⟩ := st.lockK e
        exact ⟨.ref a, hv, a, ws, rfl, .inl ⟨ha, fun od => k _ _ _ _ _ _ (go od) (strm_k upd_same ek) hw⟩⟩
      | dl kvs =>
        obtain ⟨v, hv, _, a, od, ws, rfl, ha, ek, q⟩ := st.rs.rel i _ (.inl e)
        exact ⟨.ref a, hv, a, ws, rfl, .inr ⟨od, st.wf.sub _ _ ha, k _ _ _ _ _ _ (.refl st) (strm_k ha ek) hw⟩⟩
      | _ => exact hw.elim
end DL

/-! min, max, sorted of a dict -/
namespace DL
open PySem PySem.Spec PyProof.Rows L2
open PySem.Calls PySem.W in
theorem sorted_dct2 {β : Type} {enc : β → PyData} {bs : List β} {R : Value → β → Prop} {prog : Program} {w : World} {A : Around} {E : Value → Shared → Prop} {s : Shared} {d : Addr} {es : Array DictEntry} {ep : Nat} {Q : Value → Shared → Prop} (hh : A.handled = none) (lo : (d == sysModules) = false) (hm : s.heap.DictRaw d es ep) (hn : es.size ≤ sizeLine)
    (e : EachIs R (es.toList.map (·.key)) bs) (er : EachIs (fun v b => ∃ as, Reads s.heap v (enc b) as) (es.toList.map (·.key)) bs) (hal : AllAlike (bs.map enc)) (hk : Sortable (bs.map enc)) (hu : ∀ b, b ∈ bs → A.units + 2 + (enc b).depth < cLine)
    (h : ∀ (h' : Heap) (tk : Nat) (r : Addr) (out : List Value) (n : Nat), (∀ b o, s.heap.get? b = some o → h'.get? b = some o) → (∀ b o, s.heap.get? b = some o → b < r) → h'.get? r = some (seqObj "list" out.toArray n) → EachIs R out (bs.mergeSort (dataLe false enc)) → Q (.ref r) { s with heap := h', toks := tk }) :
    wpAny (model prog w) A (PySem.call (.builtin "sorted") [.ref d] []) Q E s := by
  refine call_function_entry_kw kind_sorted plain_sorted entry_sorted (args_sorted1 _) ?_
  unfold Builtin.«sorted»
  refine wpAny_bind (m := checkCount "sorted" 1 1 _) (wpAny_pure ?_)
  refine wpAny_bind (kdu_collect (A := A.in1) (KdlSrc.rawDict lo) hh hm hn fun h' tk acc hk' hacc => ?_)
  have hv : acc.toList = es.toList.map (·.key) := by
    refine List.ext_getElem? fun j => ?_
    rw [Array.getElem?_toList, List.getElem?_map, Array.getElem?_toList]
    cases hj : acc[j]? with
    | none =>
      have : es.size ≤ j := by rw [← hacc.1]; exact Array.getElem?_eq_none_iff.mp hj
      rw [Array.getElem?_eq_none this]; rfl
    | some v =>
      obtain ⟨hi, rfl⟩ := hacc.2 j v hj
      rw [Array.getElem?_eq_getElem hi]; rfl
  generalize hvs : acc.toList = vs at hv
  rw [← hv] at e er
  have hL : vs.length ≤ sizeLine := by rw [hv, List.length_map, Array.length_toList]; exact hn
  have hsz : d < h'.objs.size := by
    obtain ⟨o, ho, _⟩ := hm
    exact Heap.lt_size (hk' d o ho)
  refine wpAny_bind (wpAny_newList ?_ hL)
  have ho : (h'.push (seqObj "list" vs.toArray 0)).get? h'.objs.size = some (seqObj "list" vs.toArray 0) := Heap.get?_push_size _ rfl
  have old : ∀ {b : Addr} {o : Obj}, s.heap.get? b = some o → (sortingHeap (h'.push (seqObj "list" vs.toArray 0)) h'.objs.size vs).get? b = some o := fun {b o} q =>
    sortingHeap_old (Nat.ne_of_lt (Heap.lt_size (hk' b o q))) (Heap.get?_push_of_some _ (hk' b o q))
  have er' : EachIs (fun v b => ∃ as, Reads (sortingHeap (h'.push (seqObj "list" vs.toArray 0)) h'.objs.size vs) v (enc b) as) vs bs := er.mono fun _ _ ⟨as, r⟩ => ⟨as, PyProof.Rows.Reads.keeps (fun _ _ => old) r⟩
  have S := SortsAt.data (prog := prog) (w := w) (A := A.in1.in1) (s := { s with heap := sortingHeap (h'.push (seqObj "list" vs.toArray 0)) h'.objs.size vs, toks := tk }) (each_map (R := fun v d => ∃ as, Reads (sortingHeap (h'.push (seqObj "list" vs.toArray 0)) h'.objs.size vs) v d as) enc er') hal hk (bound_map hu)
  refine wpAny_bind (wpAny_holding (wpAny_call_entry_kw slot_list_sort ⟨_, ho, rfl⟩ entry_list_sort ?body (args_list_sort _)))
  case body =>
    show wpAny (model prog w) A.in1.in1 (Builtin.«list.sort» ⟨[.ref h'.objs.size], []⟩) _ _ { s with heap := h'.push (seqObj "list" vs.toArray 0), toks := tk }
    refine list_sort_vals (s := { s with heap := h'.push (seqObj "list" vs.toArray 0), toks := tk }) (n := 0) ho S hL ⟨_, rfl, wpAny_pure ⟨_, rfl, ?_⟩⟩
    obtain ⟨n, hn'⟩ := sortedHeap_at (out := (sortVals (dataKind (sortingHeap (h'.push (seqObj "list" vs.toArray 0)) h'.objs.size vs) (bs.map enc)) false vs vs).toArray) ho
    refine h _ _ _ _ n (fun b o q => ?_) (fun b o q => Heap.lt_size (hk' b o q)) hn' (sortVals_data false e er' hal)
    have lt := Heap.lt_size (hk' b o q)
    rw [sortedHeap_old (Nat.ne_of_lt lt) (by rw [size_push']; exact Nat.lt_succ_of_lt lt)]
    exact Heap.get?_push_of_some _ (hk' b o q)
section
open PySem.W
variable {prog : Program} {w : World} {A : Around} {E : Value → Shared → Prop} {s : Shared}
theorem min_dct {l : Addr} {es : Array DictEntry} {ep : Nat} {x : PyData} {xs : List PyData} {as : List Addr} {Q : Value → Shared → Prop} (hh : A.handled = none) (lo : (l == sysModules) = false) (hl : s.heap.DictRaw l es ep) (hr : ReadsAll s.heap (es.toList.map (·.key)) (x :: xs) as) (ha : AlikeAll (x :: xs)) (hu : A.units + 1 + PyData.depthAll (x :: xs) < cLine)
    (h : ∀ (i : Nat) v h' tk bs, (es.toList.map (·.key))[i]? = some v → Reads h' v (minD x xs) bs → (∀ b o, s.heap.get? b = some o → h'.get? b = some o) → Q v { s with heap := h', toks := tk }) :
    wpAny (model prog w) A (call (.builtin "min") [.ref l]) Q E s := by
  have hn : es.size = xs.length + 1 := by have := readsAll_len hr; simpa using this
  have hlt : l < s.heap.objs.size := by obtain ⟨_, e, _⟩ := hl; exact Heap.lt_size e
  refine call_min_walkH (wpAny_pyIter_dict_raw lo hl ?_)
  refine ⟨_, [s.heap.objs.size, l], [s.heap.objs.size], (fun a b => b = a), es.size, (fun i v => ((es.toList.map (·.key)).toArray)[i]? = some v), _, s.heap, _, rfl,
    ((Walks.rawKeys (prog := prog) (w := w) (A := A.in1) hh s.heap.objs.size l (Nat.ne_of_lt hlt) es ep).mono_item fun i v _ ⟨hi, e⟩ => by
      rw [List.getElem?_toArray, List.getElem?_map, Array.getElem?_toList, Array.getElem?_eq_getElem hi, e]; rfl).toS,
    ⟨⟨_, Heap.get?_push_size _ rfl, rfl, rfl⟩, hl.at fun o e => Heap.get?_push_of_some _ e⟩, fun b hb => ?_, by omega, fun b o e hb => ?_, fun b o e => Heap.get?_push_of_some _ e, cmpIn_lt (A := A.in1) hr ha (by show A.units + 1 + _ < _; exact hu), fun v s' hP m => ?_⟩
  · show b < (s.heap.push _).objs.size
    rw [Heap.size_push]
    rcases List.mem_cons.mp hb with rfl | hb
    · exact Nat.lt_succ_self _
    · rcases List.mem_cons.mp hb with rfl | hb
      · exact Nat.lt_succ_of_lt hlt
      · cases hb
  · exact absurd (Heap.lt_size e) ((List.mem_singleton.mp hb) ▸ Nat.lt_irrefl _)
  · obtain ⟨h', tk, rfl, hk'⟩ := moved_old rfl rfl m
    obtain ⟨bs, r, _, _, _⟩ := readsAll_atA (vs := (es.toList.map (·.key)).toArray) (by simpa using hr) _ v hP
    have e1 : es.size - 1 = xs.length := by omega
    have e2 := (argBest_fold dataLt PyData.none x xs xs.length (Nat.le_refl _)).2
    rw [List.take_length] at e2
    rw [e1] at r
    exact h _ v h' tk bs (by rw [← List.getElem?_toArray]; exact hP) (reads_keeps hk' (by unfold minD; rw [← e2]; exact r)) hk'
theorem max_dct {l : Addr} {es : Array DictEntry} {ep : Nat} {x : PyData} {xs : List PyData} {as : List Addr} {Q : Value → Shared → Prop} (hh : A.handled = none) (lo : (l == sysModules) = false) (hl : s.heap.DictRaw l es ep) (hr : ReadsAll s.heap (es.toList.map (·.key)) (x :: xs) as) (ha : AlikeAll (x :: xs)) (hu : A.units + 1 + PyData.depthAll (x :: xs) < cLine)
    (h : ∀ (i : Nat) v h' tk bs, (es.toList.map (·.key))[i]? = some v → Reads h' v (maxD x xs) bs → (∀ b o, s.heap.get? b = some o → h'.get? b = some o) → Q v { s with heap := h', toks := tk }) :
    wpAny (model prog w) A (call (.builtin "max") [.ref l]) Q E s := by
  have hn : es.size = xs.length + 1 := by have := readsAll_len hr; simpa using this
  have hlt : l < s.heap.objs.size := by obtain ⟨_, e, _⟩ := hl; exact Heap.lt_size e
  refine call_max_walkH (wpAny_pyIter_dict_raw lo hl ?_)
  refine ⟨_, [s.heap.objs.size, l], [s.heap.objs.size], (fun a b => b = a), es.size, (fun i v => ((es.toList.map (·.key)).toArray)[i]? = some v), _, s.heap, _, rfl,
    ((Walks.rawKeys (prog := prog) (w := w) (A := A.in1) hh s.heap.objs.size l (Nat.ne_of_lt hlt) es ep).mono_item fun i v _ ⟨hi, e⟩ => by
      rw [List.getElem?_toArray, List.getElem?_map, Array.getElem?_toList, Array.getElem?_eq_getElem hi, e]; rfl).toS,
    ⟨⟨_, Heap.get?_push_size _ rfl, rfl, rfl⟩, hl.at fun o e => Heap.get?_push_of_some _ e⟩, fun b hb => ?_, by omega, fun b o e hb => ?_, fun b o e => Heap.get?_push_of_some _ e, cmpIn_gt (A := A.in1) hr ha (by show A.units + 1 + _ < _; exact hu), fun v s' hP m => ?_⟩
  · show b < (s.heap.push _).objs.size
    rw [Heap.size_push]
    rcases List.mem_cons.mp hb with rfl | hb
    · exact Nat.lt_succ_self _
    · rcases List.mem_cons.mp hb with rfl | hb
      · exact Nat.lt_succ_of_lt hlt
      · cases hb
  · exact absurd (Heap.lt_size e) ((List.mem_singleton.mp hb) ▸ Nat.lt_irrefl _)
  · obtain ⟨h', tk, rfl, hk'⟩ := moved_old rfl rfl m
    obtain ⟨bs, r, _, _, _⟩ := readsAll_atA (vs := (es.toList.map (·.key)).toArray) (by simpa using hr) _ v hP
    have e1 : es.size - 1 = xs.length := by omega
    have e2 := (argBest_fold (fun a b => dataLt b a) PyData.none x xs xs.length (Nat.le_refl _)).2
    rw [List.take_length] at e2
    rw [e1] at r
    exact h _ v h' tk bs (by rw [← List.getElem?_toArray]; exact hP) (reads_keeps hk' (by unfold maxD; rw [← e2]; exact r)) hk'
end
section
variable {X : Cx}
theorem bd_md {f : Value} {lt : PyData → List PyData → PyData}
    (hl : ∀ (A : Around) (s : Shared) (l : Addr) (es : Array DictEntry) (ep : Nat) (x : PyData) (xs : List PyData) (as : List Addr) (Q : Value → Shared → Prop) (E : Value → Shared → Prop), A = X.A → A.handled = none → (l == sysModules) = false → s.heap.DictRaw l es ep → ReadsAll s.heap (es.toList.map (·.key)) (x :: xs) as → ordOk (x :: xs) →
      (∀ (i : Nat) v h' tk bs, (es.toList.map (·.key))[i]? = some v → Reads h' v (lt x xs) bs → (∀ b o, s.heap.get? b = some o → h'.get? b = some o) → Q v { s with heap := h', toks := tk }) → wpAny (model X.prog X.w) A (PySem.call f [.ref l]) Q E s) (hc : X.calm = true) :
    BD X f fun ds k => match ds with
      | [.dict D] => ∃ x xs i, D.map (·.1) = x :: xs ∧ ordOk (x :: xs) ∧ lt x xs = .int i ∧ k (.dat (.int i))
      | _ => False := by
  refine ⟨fun vs H Q => ∃ (F : Hp) (a : Addr) (D : List (PyData × PyData)) (x : PyData) (ds : List PyData), vs = [.ref a] ∧ Same F H ∧ DcD X.K F H a D ∧ D.map (·.1) = x :: ds ∧ ordOk (x :: ds) ∧ (∀ F2 v, FzT F H F2 → Dq X.K F2 v (lt x ds) → Q v H), ?_, ?_⟩
  · rintro pins s σ H vs us Q I r ⟨F, a, D, x, ds, rfl, sf, dc, eD, hok, q⟩
    obtain ⟨u, rfl, ru⟩ := r.one
    cases ru
    obtain ⟨hs, es, ep, ks, vs, F2, raw, sz, rk, rv, fz, dk, dv⟩ := dc.raw I sf
    rw [eD] at dk
    obtain ⟨as, ra⟩ := Dq.readsAll I fz.sb (x :: ds) ks _ dk rk
    refine hl X.A s a es ep x ds as _ _ rfl (I.ok.hd hc) hs raw ra hok fun i v h' tk bs hi hr hk => ?_
    obtain ⟨xv, hx, rx⟩ : ∃ xv, ks[i]? = some xv ∧ RelV xv v := by
      have hlt : i < ks.length := by rw [rk.length]; exact (List.getElem?_eq_some_iff.mp hi).1
      obtain ⟨u, hu, ru⟩ := rk.get (List.getElem?_eq_getElem hlt)
      rw [hi] at hu
      cases hu
      exact ⟨_, List.getElem?_eq_getElem hlt, ru⟩
    obtain ⟨d, hd, dq⟩ := dk.get hx
    have I' : Inv X pins σ H { s with heap := h', toks := tk } := I.kept hk
    obtain ⟨as, rd⟩ := Dq.reads I' fz.sb d xv v dq rx
    have e := (reads_det (fun b o e _ => e) hr rd).1
    subst e
    exact ⟨xv, H, I', rx, q F2 _ fz dq⟩
  · intro F H ds vs k Q' s l ho go
    split at ho
    · obtain ⟨x, xs, i, e, ok, e3, hk⟩ := ho
      obtain ⟨v, rfl, q⟩ := lk1 l
      obtain ⟨b, rfl, dc⟩ := dct_lk s q
      refine ⟨F, b, _, x, xs, rfl, s, ?_, e, ok, fun F2 v fz dq => ?_⟩
      · rcases dc with ⟨ws, kvs, a1, a2, a3, a4, _⟩ | ⟨ws, kvs, a1, a2, a3, a4⟩
        · exact .inl ⟨ws, kvs, a1, a2, a3, a4⟩
        · exact .inr ⟨ws, kvs, a1, a2, a3, a4⟩
      · rw [e3] at dq
        cases dq
        exact go _ _ _ _ _ .datI hk
    · exact ho.elim
def bMnD : OB := fun ds k => match ds with
  | [.dict D] => ∃ x xs i, D.map (·.1) = x :: xs ∧ ordOk (x :: xs) ∧ PySem.W.minD x xs = .int i ∧ k (.dat (.int i))
  | _ => False
def bMxD : OB := fun ds k => match ds with
  | [.dict D] => ∃ x xs i, D.map (·.1) = x :: xs ∧ ordOk (x :: xs) ∧ PySem.W.maxD x xs = .int i ∧ k (.dat (.int i))
  | _ => False
theorem bd_minD (hc : X.calm = true) (hu : X.A.units + 60 < cLine) : BD X (.builtin "min") bMnD :=
  bd_md (lt := PySem.W.minD) (fun A s l es ep x xs as Q E eA hh lo hl hr ho h => min_dct hh lo hl hr ho.1 (by subst eA; have := ho.2; omega) h) hc
theorem bd_maxD (hc : X.calm = true) (hu : X.A.units + 60 < cLine) : BD X (.builtin "max") bMxD :=
  bd_md (lt := PySem.W.maxD) (fun A s l es ep x xs as Q E eA hh lo hl hr ho h => max_dct hh lo hl hr ho.1 (by subst eA; have := ho.2; omega) h) hc
/-- sorted(d), the keys numbers or texts -/
def bSrD : OB := fun ds k => match ds with
  | [.dict D] => ∃ kvs : List (Key × PyData), kvs ≠ [] ∧ D = entK kvs ∧ sortOk ((kvs.map (·.1)).map kP) ∧ k (.lst (sortD ((kvs.map (·.1)).map kP)))
  | _ => False
theorem each_of {α β : Type} {R : α → β → Prop} : ∀ {xs : List α} {ys : List β}, Paired R xs ys → PySem.W.EachIs R xs ys
  | _, _, .nil => .nil
  | _, _, .cons h t => .cons h (each_of t)
theorem of_each {α β : Type} {R : α → β → Prop} : ∀ {xs : List α} {ys : List β}, PySem.W.EachIs R xs ys → Paired R xs ys
  | _, _, .nil => .nil
  | _, _, .cons h t => .cons h (of_each t)
theorem bd_sortD (hc : X.calm = true) (hu : X.A.units + 101 < cLine) : BD X (.builtin "sorted") bSrD := by
  refine ⟨fun vs H Q => ∃ (F : Hp) (a : Addr) (kvs : List (Key × PyData)), vs = [.ref a] ∧ Same F H ∧ DcD X.K F H a (entK kvs) ∧ kvs ≠ [] ∧ sortOk ((kvs.map (·.1)).map kP) ∧ (∀ (r : Addr) (ys : List V), H r = none → (∀ G, DqAll X.K G ys (sortD ((kvs.map (·.1)).map kP))) → Q (.ref r) (upd H r (.lst ys))), ?_, ?_⟩
  · rintro pins s σ H vs us Q I r ⟨F, a, kvs, rfl, sf, dc, ne, so, q⟩
    obtain ⟨u, rfl, ru⟩ := r.one
    cases ru
    obtain ⟨hs, es, ep, ks, vs, F2, raw, sz, rk, rv, fz, dk, dv⟩ := dc.raw I sf
    rw [show (entK kvs).map (·.1) = (kvs.map (·.1)).map kP by unfold entK; rw [List.map_map, List.map_map]; rfl] at dk
    have ek := keys_dq dk
    subst ek
    have e0 : PySem.W.EachIs (fun v k => RelV (kV k) v) (es.toList.map (·.key)) (kvs.map (·.1)) := by
      have g : ∀ {l : List Key} {us : List Value}, Vals (l.map kV) us → PySem.W.EachIs (fun v k => RelV (kV k) v) us l := fun {l} => by
        induction l with
        | nil => intro us h; cases h; exact .nil
        | cons k l ih => intro us h; cases h with | cons h t => exact .cons h (ih t)
      exact g rk
    have kd : ∀ (G : Hp) (k : Key), Dq X.K G (kV k) (kP k) := fun G k => by cases k with
      | inl i => exact .int i
      | inr x => exact .str x
    refine sorted_dct2 (enc := kP) (R := fun v k => RelV (kV k) v) (bs := kvs.map (·.1)) (I.ok.hd hc) hs raw sz e0 (e0.mono fun v k hv => Dq.reads I sf (kP k) (kV k) v (kd F k) hv) so.1 so.2.1 (fun b hb => ?_) fun h' tk r out n keep le hr eo => ?_
    · have := depthAll_mem (List.mem_map_of_mem (f := kP) hb)
      have := so.2.2
      show X.A.units + 2 + (kP b).depth < cLine
      omega
    · have hz : out.length = (kvs.map (·.1)).length := by
        have := Paired.length (of_each eo)
        rw [List.length_mergeSort] at this
        exact this
      have hes : (kvs.map (·.1)).length = es.size := by
        have := Paired.length (of_each e0)
        rw [List.length_map, Array.length_toList] at this
        exact this.symm
      have rvs : Vals (((kvs.map (·.1)).mergeSort (PySem.W.dataLe false kP)).map kV) out := by
        have g : ∀ {l : List Key} {us : List Value}, PySem.W.EachIs (fun v k => RelV (kV k) v) us l → Vals (l.map kV) us := fun {l} => by
          induction l with
          | nil => intro us h; cases h; exact .nil
          | cons k l ih => intro us h; cases h with | cons h t => exact .cons h (ih t)
        exact g eo
      have gone : s.heap.get? r = none := by
        cases e : s.heap.get? r with
        | none => rfl
        | some o => exact absurd (le r o e) (Nat.lt_irrefl _)
      have Hr : H r = none := I.hok.gone gone
      have fp : FpOk X pins H r := by
        obtain ⟨mm, hns, _⟩ := I.loc
        have lr : X.env.locals < r := by
          cases e : s.heap.get? X.env.locals with
          | none => exact absurd e (by obtain ⟨o, _, _, ho, _⟩ := hns; rw [ho]; exact fun z => nomatch z)
          | some o => exact le _ o e
        have sr : X.s_0.heap.objs.size ≤ r := Nat.le_trans I.ok.above (Nat.le_of_lt lr)
        refine ⟨Hr, Nat.ne_of_gt lr, fun hb => ?_, .inr sr, fun x c e z => ?_, fun p hp z => ?_⟩
        · obtain ⟨_, o, ho, _⟩ := I.ok.funs.mem hb
          exact absurd (Nat.lt_of_lt_of_le (Heap.lt_size ho) sr) (Nat.lt_irrefl _)
        · obtain ⟨v, o, ho, _⟩ := I.cell x c e
          exact absurd (le c o ho) (by rw [z]; exact Nat.lt_irrefl _)
        · exact absurd (le p.1 p.2 (I.pin p hp).1) (by rw [z]; exact Nat.lt_irrefl _)
      have I1 : Inv X pins σ H { s with heap := h', toks := tk } := I.kept keep
      refine ⟨.ref r, _, I1.take (h' := h') (t' := tk) (o := .lst (((kvs.map (·.1)).mergeSort (PySem.W.dataLe false kP)).map kV)) (fun b ob _ e => e) fp (show ObjOk X.prog X.w _ _ _ (.lst _) from ⟨by rw [List.length_map, List.length_mergeSort, hes]; exact sz, out, n, rvs, hr⟩), rfl, q r _ Hr fun G => ?_⟩
      have e3' := List.map_mergeSort (r := PySem.W.dataLe false kP) (s := PySem.W.dataLe false id) (f := kP) (l := kvs.map (·.1)) (fun _ _ _ _ => rfl)
      unfold sortD
      rw [← e3']
      exact DqAll.of_map fun k _ => kd G k
  · intro F H ds vs k Q' s l ho go
    unfold bSrD at ho
    split at ho
    · obtain ⟨kvs, ne, rfl, so, hk⟩ := ho
      obtain ⟨v, rfl, q⟩ := lk1 l
      obtain ⟨b, rfl, dc⟩ := dct_lk s q
      refine ⟨F, b, kvs, rfl, s, ?_, ne, so, fun r ys hr dq => go _ _ _ _ _ (.lst hr (dq F)) hk⟩
      rcases dc with ⟨ws, kvs', a1, a2, a3, a4, _⟩ | ⟨ws, kvs', a1, a2, a3, a4⟩
      · exact .inl ⟨ws, kvs', a1, a2, a3, a4⟩
      · exact .inr ⟨ws, kvs', a1, a2, a3, a4⟩
    · exact ho.elim
end
end DL

/-! list(d.items()) -/
namespace DL
open PySem PySem.Spec PyProof.Rows L2
open PySem.Calls PySem.W in
theorem list_itm {X : Cx} {pins : List (Addr × Obj)} {σ : L2.St} {H F : Hp} {s : Shared} {r d : Addr} {es : Array DictEntry} {ep : Nat} {ks vs : List V} {D : List (PyData × PyData)} {Q : Value → Shared → Prop} (hc : X.calm = true) (I : Inv X pins σ H s) (f : Same F H)
    (hv : s.heap.IsItemsView r d) (hm : s.heap.DictRaw d es ep) (hn : es.size ≤ sizeLine) (rk : Vals ks (es.toList.map (·.key))) (rv : Vals vs (es.toList.map (·.val))) (dk : DqAll X.K F ks (D.map (·.1))) (dv : DqAll X.K F vs (D.map (·.2)))
    (go : ∀ (L : List (Addr × HO)) (r' : Addr) (ys : List V) (s' : Shared), (L.map (·.1)).Nodup → (∀ p ∈ L, H p.1 = none) → tupsH H L r' = none → DqAll X.K (tupsH F L) ys (itmD D) → Inv X pins σ (upd (tupsH H L) r' (.lst ys)) s' → Q (.ref r') s') :
    wpAny (model X.prog X.w) X.A (call (.type "list") [.ref r]) Q X.xe s := by
  have hh : X.A.handled = none := I.ok.hd hc
  refine dil_call (es := es) (ep := ep) hh hv hm hn fun h' tk acc c as hk hS hl hG hacc => ?_
  have lk : ks.length = es.size := by have := rk.length; rwa [List.length_map, Array.length_toList] at this
  have lv : vs.length = es.size := by have := rv.length; rwa [List.length_map, Array.length_toList] at this
  have lD : D.length = es.size := by have := dk.length; rw [List.length_map] at this; omega
  obtain ⟨bs, ebs⟩ : ∃ bs : List ItR, bs = List.zip as (List.zip es.toList (List.zip ks (List.zip vs D))) := ⟨_, rfl⟩
  have lb : bs.length = es.size := by rw [ebs]; simp only [List.length_zip, Array.length_toList]; omega
  have eas : bs.map (·.1) = as := by rw [ebs]; exact List.map_fst_zip (by simp only [List.length_zip, Array.length_toList]; omega)
  have eD : bs.map itE = itmD D := by
    have e1 : bs.map (fun b => b.2.2.2.2) = D := by
      rw [ebs]
      rw [show (fun b : ItR => b.2.2.2.2) = (fun t : V × PyData × PyData => t.2) ∘ (fun t : V × V × PyData × PyData => t.2) ∘ (fun t : DictEntry × V × V × PyData × PyData => t.2) ∘ fun t : ItR => t.2 from rfl]
      rw [← List.map_map, ← List.map_map, ← List.map_map, List.map_snd_zip (by simp only [List.length_zip, Array.length_toList]; omega), List.map_snd_zip (by simp only [List.length_zip, Array.length_toList]; omega), List.map_snd_zip (by simp only [List.length_zip, Array.length_toList]; omega), List.map_snd_zip (by omega)]
    unfold itmD
    rw [← e1, List.map_map]
    rfl
  have at_ : ∀ b ∈ bs, ∃ j, as[j]? = some b.1 ∧ es.toList[j]? = some b.2.1 ∧ ks[j]? = some b.2.2.1 ∧ vs[j]? = some b.2.2.2.1 ∧ D[j]? = some b.2.2.2.2 := fun b hb => by
    rw [ebs] at hb
    obtain ⟨j, hj⟩ := List.mem_iff_getElem?.mp hb
    obtain ⟨h1, h2⟩ := List.getElem?_zip_eq_some.mp hj
    obtain ⟨h2, h3⟩ := List.getElem?_zip_eq_some.mp h2
    obtain ⟨h3, h4⟩ := List.getElem?_zip_eq_some.mp h3
    obtain ⟨h4, h5⟩ := List.getElem?_zip_eq_some.mp h4
    exact ⟨j, h1, h2, h3, h4, h5⟩
  have nd : (bs.map (·.1)).Nodup := by rw [eas]; exact List.Pairwise.imp (fun h => Nat.ne_of_lt h) hG.rise
  have ndL : ((itL bs).map (·.1)).Nodup := by unfold itL; rw [List.map_map]; exact nd
  have ob : ∀ b ∈ bs, h'.get? b.1 = some (itO b) := fun b hb => by
    obtain ⟨j, h1, h2, _⟩ := at_ b hb
    obtain ⟨hj, g2⟩ := hG.pairs j _ h1
    rw [Array.getElem?_toList, Array.getElem?_eq_getElem hj] at h2
    rw [g2, Option.some.inj h2]
    rfl
  have ab : ∀ b ∈ bs, s.heap.objs.size < b.1 := fun b hb => hG.above _ (by rw [← eas]; exact List.mem_map_of_mem hb)
  have fr : ∀ b ∈ bs, s.heap.objs.size ≤ b.1 := fun b hb => Nat.le_of_lt (ab b hb)
  have mL : ∀ p ∈ itL bs, ∃ b ∈ bs, p = (b.1, tupO (itO b) [b.2.2.1, b.2.2.2.1]) := fun p hp => by
    obtain ⟨b, hb, rfl⟩ := List.mem_map.mp hp
    exact ⟨b, hb, rfl⟩
  have frL : ∀ p ∈ itL bs, H p.1 = none := fun p hp => by
    obtain ⟨b, hb, rfl⟩ := mL p hp
    exact I.hok.fresh (fr b hb)
  have frF : ∀ p ∈ itL bs, F p.1 = none := fun p hp => by
    have := frL p hp
    cases e : F p.1 with
    | none => rfl
    | some u => rw [f _ _ e] at this; cases this
  have gr := tupsH_grow (itL bs) frF
  have rels : ∀ b ∈ bs, RelV b.2.2.1 b.2.1.key ∧ RelV b.2.2.2.1 b.2.1.val := fun b hb => by
    obtain ⟨j, _, h2, h3, h4, _⟩ := at_ b hb
    obtain ⟨y, y1, y2⟩ := L2.paired_get rk h3
    obtain ⟨z, z1, z2⟩ := L2.paired_get rv h4
    rw [List.getElem?_map, h2] at y1 z1
    rw [← Option.some.inj y1] at y2
    rw [← Option.some.inj z1] at z2
    exact ⟨y2, z2⟩
  have I1 : Inv X pins σ (tupsH H (itL bs)) { s with heap := h', toks := tk } := tups_inv I (itL bs) (I.kept hk) ndL fun p hp => by
    have hn := frL p hp
    obtain ⟨b, hb, rfl⟩ := mL p hp
    refine ⟨fr b hb, hn, fun H2 => tupO_ok (ob b hb) ⟨by show 2 ≤ sizeLine; decide, [b.2.1.key, b.2.1.val], .cons (rels b hb).1 (.cons (rels b hb).2 .nil), ⟨_, ob b hb, rfl, _, rfl⟩⟩⟩
  have dq : ∀ b ∈ bs, Dq X.K (tupsH F (itL bs)) (.ref b.1) (itE b) := fun b hb => by
    obtain ⟨j, _, _, h3, h4, h5⟩ := at_ b hb
    obtain ⟨y, y1, y2⟩ := dk.get h3
    obtain ⟨z, z1, z2⟩ := dv.get h4
    rw [List.getElem?_map, h5] at y1 z1
    rw [← Option.some.inj y1] at y2
    rw [← Option.some.inj z1] at z2
    exact .tup ⟨itO b, rfl, tupsH_at (itL bs) ndL _ (List.mem_map_of_mem (f := fun b : ItR => (b.1, tupO (itO b) [b.2.2.1, b.2.2.2.1])) hb)⟩ (.cons (y2.mono gr) (.cons (z2.mono gr) .nil))
  have evs : as.map Value.ref = bs.map fun b => Value.ref b.1 := by rw [← eas, List.map_map]; rfl
  have nS : tupsH H (itL bs) s.heap.objs.size = none := by
    rw [tupsH_off]
    · exact I.hok.fresh (Nat.le_refl _)
    · intro hb
      obtain ⟨p, hp, e⟩ := List.mem_map.mp hb
      obtain ⟨b, hb, rfl⟩ := mL p hp
      exact absurd (ab b hb) (by rw [← e]; exact Nat.lt_irrefl _)
  have rl : Vals (bs.map fun b => V.ref b.1) acc.toList := by
    rw [hacc, evs]
    exact vals_it (each_it bs)
  refine go (itL bs) s.heap.objs.size (bs.map fun b => V.ref b.1) _ ndL frL nS (by rw [← eD]; exact dq_it bs dq) (I1.take (h' := h') (t' := tk) (o := .lst (bs.map fun b => V.ref b.1)) (fun b ob _ e => e) (I.fpOk (Nat.le_refl _) nS) (show ObjOk X.prog X.w _ _ _ (.lst _) from ⟨by rw [List.length_map, lb]; exact hn, acc.toList, c, rl, by rw [Array.toArray_toList]; exact hS⟩))
def tLI (K : PySem.W.Frag) (te : TE) : TE := fun σ H Q => te σ H fun x H1 => ∃ (F : Hp) (a : Addr) (D : List (PyData × PyData)), x = .ref a ∧ Same F H1 ∧ DcD K F H1 a D ∧
  ∀ (F2 : Hp) (L : List (Addr × HO)) (r : Addr) (ys : List V), FzT F H1 F2 → (L.map (·.1)).Nodup → (∀ p ∈ L, H1 p.1 = none) → tupsH H1 L r = none → DqAll K (tupsH F2 L) ys (itmD D) → Q (.ref r) (upd (tupsH H1 L) r (.lst ys))
theorem pe_litems {X : Cx} {e : Expr} {te : TE} {p apos cpos pos : Pos} (hg : Gl X "list") (hm : X.mg "list" = none) (hc : X.calm = true) (he : PE X e te)
    (hbase : attributeBase e "items" X.env (eval e X.env) = eval e X.env := by rfl) (hline : (apos.endLine == cpos.line) = true := by rfl) : PE X (.Call (.Name "list" p) [.Call (.Attribute e "items" apos) [] [] cpos] [] pos) (tLI X.K te) := by
  refine ⟨fun pins s σ H Q I h => ?_⟩
  refine Call_ (ld_blt I hg hm boot_list ?_)
  refine PyProof.Rows.callWith_type1 (PyProof.Rows.args_cons ?_ rfl) rfl rfl
  refine wpAny_Call_method (T := "dict") (id := "dict.items") hbase rfl hline F.plainAttrs_dict F.slot_dict_items F.type_dict_items (thn (he.run pins s σ H _ I h) fun u s1 ⟨x, H1, I1, rx, Fz, d, D, ex, f, dc, go⟩ => ?_)
  subst ex
  obtain rfl : u = Value.ref d := rx
  obtain ⟨hs, es, ep, ks, vs, F2, raw, sz, rk, rv, fz, dk, dv⟩ := dc.raw I1 f
  have I2 : Inv X pins σ H1 { s1 with heap := s1.heap.push { cls := .type "dict_items", data := .fields #[.ref d] } } := I1.kept (t' := s1.toks) fun b ob q => Heap.get?_push_of_some _ q
  obtain ⟨od, h1, h2, h3⟩ := id raw
  refine ⟨raw.typeIs, fun a ea => by cases ea; exact ⟨_, h1, h2.2.1⟩, ?_⟩
  have fin : wpAny (model X.prog X.w) X.A (call (.type "list") [.ref s1.heap.objs.size]) (EP X pins σ Q) X.xe { s1 with heap := s1.heap.push { cls := .type "dict_items", data := .fields #[.ref d] } } :=
    list_itm hc I2 fz.sb ⟨_, Heap.get?_push_size _ rfl, rfl, rfl⟩ (raw.at fun o e => Heap.get?_push_of_some _ e) sz rk rv dk dv fun L r' ys s' nd fr nr dq J => ⟨.ref r', _, J, rfl, go F2 L r' ys fz nd fr nr dq⟩
  show wpAny _ _ (callWith cpos (.builtin "dict.items") [.ref d] [] []) _ X.xe s1
  exact method_meetsIn PySem.F.slot_dict_items PySem.F.entry_dict_items rfl (PySem.evalArgs_none ⟨rfl, raw.typeIs, PySem.F.args_dict_items_1 _, _, meets_dict_items_raw d hs, ⟨_, _, raw⟩, PyProof.Rows.args_nil fin⟩)
/-- list(d.items()) -/
def wLI (wa : WX) : WE := fun Z ρ Q => wa Z ρ fun a ρ1 => lkD ρ1 a fun d => ∃ D, d = .dict D ∧ Q (.lst (itmD D)) ρ1
theorem d_LI {X : Cx} {E : EX} {e : Expr} {wa : WX} {p apos cpos pos : Pos} (hc : X.calm = true) (hg : Gl X "list") (hm : X.mg "list" = none) (ha : PE X e (rx X.K X.mg E wa))
    (hbase : attributeBase e "items" X.env (eval e X.env) = eval e X.env := by rfl) (hline : (apos.endLine == cpos.line) = true := by rfl) : PE X (.Call (.Name "list" p) [.Call (.Attribute e "items" apos) [] [] cpos] [] pos) (rd X.K X.mg E (wLI wa)) := pe_imp (pe_litems hg hm hc ha hbase hline) fun σ H Q ⟨ρ, F, fps, Z, Qd, st, hw, zc, k⟩ => by
  refine ⟨ρ, F, fps, Z, _, st, hw, zc, fun a v1 ρ1 F1 H1 fps1 g1 q1 h1 => ?_⟩
  obtain ⟨d, ⟨D, rfl, h3⟩, l1⟩ := lk_rel g1.st.rs q1 h1
  obtain ⟨b, rfl, dc⟩ := dct_lk g1.st.wf.sub l1
  refine ⟨F1, b, D, rfl, g1.st.wf.sub, ?_, fun F2 L r ys fz nd fr nr dq => ?_⟩
  · rcases dc with ⟨ws, kvs, a1, a2, a3, a4, _⟩ | ⟨ws, kvs, a1, a2, a3, a4⟩
    · exact .inl ⟨ws, kvs, a1, a2, a3, a4⟩
    · exact .inr ⟨ws, kvs, a1, a2, a3, a4⟩
  · have g2 := g1.trans (fz.got g1.st)
    have g3 := g2.trans (tups_got L g2.st nd fr)
    exact k _ _ _ _ _ _ _ (.after g3 (.lst g3.st nr dq)) h3
end DL

/-! a pot that counts its draws -/
namespace DL
open PySem PySem.Spec PyProof.Rows L2
def potT (g s t : Str) (n N : Nat) : Res where
  rel := fun v H fp => ∃ (a b : Addr) (m c : Int) (cs : List Int), v = .ref a ∧ a ≠ b ∧ fp = Or2 (One a) (One b) ∧ H a = some (.dK (potC g s t b m c)) ∧ H b = some (.lst (cs.map V.int)) ∧ cs.length ≤ n ∧ 0 ≤ c ∧ c ≤ N
  stay := fun {v H H' fp} ⟨a, b, m, c, cs, e1, e2, e3, e4, e5, e6⟩ k => ⟨a, b, m, c, cs, e1, e2, e3, by rw [k a (by rw [e3]; exact .inl rfl)]; exact e4, by rw [k b (by rw [e3]; exact .inr rfl)]; exact e5, e6⟩
  dom := fun {v H fp} ⟨a, b, m, c, cs, e1, e2, e3, e4, e5, e6⟩ d hd => by
    rw [e3] at hd
    rcases hd with z | z
    · rw [show d = a from z, e4]; exact fun q => nomatch q
    · rw [show d = b from z, e5]; exact fun q => nomatch q
  nt := fun {v H fp} ⟨a, b, m, c, cs, e1, e2, e3, e4, e5, e6⟩ d hd xs => by
    rw [e3] at hd
    rcases hd with z | z
    · rw [show d = a from z, e4]; exact fun q => nomatch q
    · rw [show d = b from z, e5]; exact fun q => nomatch q
theorem Sta.resSetP {K : PySem.W.Frag} {F H H' : Hp} {ρ : En} {σ : Sg} {fps : Nat → Addr → Prop} {i : Nat} {r r' : Res} {v : V} (s : Sta K F H ρ σ fps) (h : ρ[i]? = some (.p (.res r))) (hv : σ[i]? = some (some v)) (e : ∀ x, ¬ fps i x → H' x = H x) (rel : r'.rel v H' (fps i)) : GotS K ρ σ F H fps (ρ.set i (.p (.res r'))) σ F H' fps := by
  have hi : i < ρ.length := (List.getElem?_eq_some_iff.mp h).1
  have off : ∀ {b : Addr}, ¬ Ow fps b → H' b = H b := fun {b} no => e b fun z => no ⟨i, z⟩
  refine ⟨⟨.refl _, fun b h h' => absurd h h', fun b o q no => by rw [off no]; exact q, fun b z => .inl z⟩, ⟨⟨fun b o q => ?_, s.wf.out, fun b ⟨j, z⟩ => ?_⟩, ⟨by rw [List.length_set]; exact s.rs.len, fun j n q => ?_, fun j h1 h2 => ?_, s.rs.dis⟩⟩, fun j n q => ?_⟩
  · rw [off fun z => by rw [s.wf.out b z] at q; cases q]; exact s.wf.sub b o q
  · by_cases ej : j = i
    · subst ej; exact r'.dom rel b z
    · rw [e b fun z2 => s.rs.dis j i b ej z z2]; exact s.wf.dom b ⟨j, z⟩
  · by_cases ej : j = i
    · subst ej
      rw [List.getElem?_set_self hi] at q
      rcases q with q | q
      · cases q
      · cases q; exact ⟨v, hv, rel⟩
    · rw [List.getElem?_set_ne (Ne.symm ej)] at q
      obtain ⟨u, h1, h2⟩ := s.rs.rel j n q
      exact ⟨u, h1, h2.stay (.refl _) fun a ha => e a fun z2 => s.rs.dis j i a ej ha z2⟩
  · by_cases ej : j = i
    · subst ej
      exact absurd (List.getElem?_set_self hi) (h2 _)
    · refine s.rs.emp j (fun n => ?_) fun n => ?_
      · have := h1 n; rw [List.getElem?_set_ne (Ne.symm ej)] at this; exact this
      · have := h2 n; rw [List.getElem?_set_ne (Ne.symm ej)] at this; exact this
  · by_cases ej : j = i
    · subst ej
      rw [h] at q
      exact ⟨⟨_, List.getElem?_set_self hi⟩, rfl⟩
    · rw [List.getElem?_set_ne (Ne.symm ej)]; exact ⟨⟨n, q⟩, rfl⟩
def dspDrawT (g s t : Str) (n : Nat) : DSp := fun args R _ => ∃ (many : Int) (N : Nat), args = [.p (.res (potT g s t n N)), .v (.dat (.int many))] ∧ 1 ≤ many ∧ many < 1073741824 ∧ N < 2 ^ 62 ∧ ∀ (r : Int) (N' : Nat), 0 ≤ r → r < many → N' ≤ N + 1 → R (.dat (.int r)) [.p (.res (potT g s t n N')), .v (.dat (.int many))]
def rInsM : V → List V → Hp → VK → Prop := fun x vs H Q => ∃ (l : Addr) (xs : List V) (i : Int) (y : V), x = .ref l ∧ vs = [.int i, y] ∧ H l = some (.lst xs) ∧ xs.length < sizeLine ∧ 0 ≤ i ∧ i < 2 ^ 63 ∧ Q .non (upd H l (.lst (xs.take i.toNat ++ [y] ++ xs.drop i.toNat)))
def tStir (K : PySem.W.Frag) (g s t : Str) : TS :=
  tSeq (tAsg (tIxK g) (gName 2))
  (tSeq (tIfS (tTest (tOp (rNeD K) (tVar 2) (tLst tNil)))
    (tSeq (tAsg (tBM K "list" rPopAt (tVar 2) (tCons (vI 0) tNil)) (gName 3))
      (tSeq (tIfS (tTest (tOp iGe (tVar 3) (tVar 1))) (tDrop (tBM K "list" rInsM (tVar 2) (tCons (vI 0) (tCons (tOp iDiv (tVar 3) (tVar 1)) tNil)))) tNext)
        (tRet (tOp iMod (tInt (tVar 3)) (tVar 1))))) tNext)
  (tSeq (tAsg (tOp iAdd (tIxK t) (vI 1)) (gSub (tVar 0) (tC (.str t)) rSetD))
  (tSeq (tAsg (tIxK t) (gName 4))
  (tSeq (tAsg (tOp iMod (tInt (tOp iAdd (tOp iAdd (tOp iMul (tIxK s) (vI 48271)) (tOp iMul (tOp iMul (tVar 4) (tVar 4)) (vI 17))) (tOp iMul (vI 7919) (tVar 4)))) (vI 4294967279)) (gName 5))
  (tSeq (tAsg (tOp iMod (tInt (tOp iAdd (tOp iMul (tVar 5) (vI 69621)) (tOp iDiv (tVar 5) (vI 65536)))) (vI 4294967291)) (gName 5))
  (tSeq (tAsg (tVar 5) (gSub (tVar 0) (tC (.str s)) rSetD))
  (tRet (tOp iMod (tInt (tOp iDiv (tVar 5) (vI 1024))) (tVar 1)))))))))
section
variable {K : PySem.W.Frag} {mg : Str → Option Value} {g s t : Str} {n0 : Nat}
theorem stir_spec {x0 x1 x2 x3 x4 x5 : Str} {vs : List V} {H : Hp} {Q : VK} {E : XK} (ok : PotOk g s t) (hn : n0 ≤ 1000) (h : toSp K mg 2 (dspDrawT g s t n0) vs H Q E) : tStir K g s t { nx := fun _ H' => Q .non H', rt := Q } (L2.start [x0, x1, x2, x3, x4, x5] vs) H := by
  obtain ⟨hl, args, F, fps, R, Z, sta, ⟨many, N, rfl, hm1, hm, hN, hr⟩, q, _⟩ := h
  obtain ⟨v0, v1, rfl⟩ : ∃ v0 v1, vs = [v0, v1] := by
    match vs, hl with
    | [v0, v1], _ => exact ⟨v0, v1, rfl⟩
  obtain ⟨u0, e0, a, b, m, c, cs, rfl, hab, hf, ha, hb, hc, hc0, hcN⟩ := sta.rs.rel 0 _ (.inr rfl)
  obtain ⟨u1, e1, _, d1⟩ := sta.rs.rel 1 _ (.inl rfl)
  cases e0
  cases e1
  cases d1
  show tStir K g s t _ [some (.ref a), some (.int many), none, none, none, none] H
  refine ⟨.ref a, rfl, a, _, rfl, dget_g ok ha, ?_⟩
  show tSeq _ _ _ [some (.ref a), some (.int many), some (.ref b), none, none, none] H
  refine ⟨.ref b, rfl, ⟨Nat.zero_le _, fun p hp => ?_⟩⟩
  have hpb : b ≠ p := ne_of_none hb hp
  have hpa : a ≠ p := ne_of_none ha hp
  refine ⟨upd H p (.lst []), .list (cs.map .int), .list [], .refl _, .lst (by rw [upd_ne hpb]; exact hb) (DqAll.of_ints cs), .lst upd_same .nil, shaped_list cs, rfl, _, rfl, ?_⟩
  rw [eqv_nil]
  have g1 := sta.alloc (o := HO.lst []) hp
  have ha1 : upd H p (.lst []) a = some (.dK (potC g s t b m c)) := by rw [upd_ne hpa]; exact ha
  have hb1 : upd H p (.lst []) b = some (.lst (cs.map V.int)) := by rw [upd_ne hpb]; exact hb
  generalize upd H p (.lst []) = H1 at g1 ha1 hb1
  have fin1 : ∀ {H' : Hp} {r : Int} {N' : Nat}, (∀ x, ¬ Or2 (One a) (One b) x → H' x = H1 x) → (potT g s t n0 N').rel (.ref a) H' (Or2 (One a) (One b)) → 0 ≤ r → r < many → N' ≤ N + 1 → Q (.int r) H' := fun {H' r N'} e rel r0 r1 hN' =>
    q _ _ _ _ _ _ _ _ (Got.of (g1.trans (g1.st.resSetP (i := 0) (v := .ref a) rfl rfl (by rw [hf]; exact e) (by rw [hf]; exact rel))) (.int r)) (hr r N' r0 r1 hN')
  have mod : ∀ n : Int, 0 ≤ n % many ∧ n % many < many := fun n => ⟨Int.emod_nonneg n (by omega), Int.emod_lt_of_pos n (by omega)⟩
  cases cs with
  | nil =>
    refine iteF ?_
    refine ⟨.ref a, rfl, a, _, rfl, dget_t ok ha1, ⟨c, 1, rfl, rfl, .ref a, rfl, a, _, rfl, dput_t (c + 1) ok ha1, ?_⟩⟩
    have ha2 : upd H1 a (.dK (potC g s t b m (c + 1))) a = some (.dK (potC g s t b m (c + 1))) := upd_same
    have hb2 : upd H1 a (.dK (potC g s t b m (c + 1))) b = some (.lst (([] : List Int).map V.int)) := by rw [upd_ne (Ne.symm hab)]; exact hb1
    have off2 : ∀ x, ¬ Or2 (One a) (One b) x → upd H1 a (.dK (potC g s t b m (c + 1))) x = H1 x := fun x hx => upd_ne fun z => hx (.inl z)
    show tSeq _ _ _ _ (upd H1 a (.dK (potC g s t b m (c + 1))))
    generalize upd H1 a (.dK (potC g s t b m (c + 1))) = H2 at ha2 hb2 off2
    refine ⟨.ref a, rfl, a, _, rfl, dget_t ok ha2, ?_⟩
    show tSeq _ _ _ [some (.ref a), some (.int many), some (.ref b), none, some (.int (c + 1)), none] H2
    have ht : -(2 ^ 64) < c + 1 ∧ c + 1 < 2 ^ 64 := ⟨by omega, by omega⟩
    have hcN2 : c + 1 ≤ ((N + 1 : Nat) : Int) := by omega
    have hc2 : 0 ≤ c + 1 := by omega
    clear hcN hc0
    generalize c + 1 = k at ht ha2 off2 hcN2 hc2
    refine ⟨.ref a, rfl, a, _, rfl, dget_s ok ha2, ⟨m, 48271, rfl, rfl, .inr ⟨by decide, by decide⟩, .int k, rfl, .int k, rfl, k, k, rfl, rfl, .inl ht, _, 17, rfl, rfl, .inr ⟨by decide, by decide⟩, _, _, rfl, rfl, .int k, rfl, 7919, k, rfl, rfl, .inl ⟨by decide, by decide⟩, _, _, rfl, rfl, .inl ⟨_, rfl, _, 4294967279, rfl, rfl, (by show (0 : Int) < 4294967279; decide), ?_⟩⟩⟩
    show tSeq _ _ _ [some (.ref a), some (.int many), some (.ref b), none, some (.int k), some (.int ((m * 48271 + k * k * 17 + 7919 * k) % 4294967279))] H2
    generalize (m * 48271 + k * k * 17 + 7919 * k) % 4294967279 = n1
    refine ⟨.int n1, rfl, n1, 69621, rfl, rfl, .inr ⟨by decide, by decide⟩, .int n1, rfl, n1, 65536, rfl, rfl, ⟨by decide, by decide⟩, _, _, rfl, rfl, .inl ⟨_, rfl, _, 4294967291, rfl, rfl, (by show (0 : Int) < 4294967291; decide), ?_⟩⟩
    show tSeq _ _ _ [some (.ref a), some (.int many), some (.ref b), none, some (.int k), some (.int ((n1 * 69621 + n1 / 65536) % 4294967291))] H2
    generalize (n1 * 69621 + n1 / 65536) % 4294967291 = n2
    refine ⟨.int n2, rfl, .ref a, rfl, a, _, rfl, dput_s n2 ok ha2, ?_⟩
    have ha3 : upd H2 a (.dK (potC g s t b n2 k)) a = some (.dK (potC g s t b n2 k)) := upd_same
    have hb3 : upd H2 a (.dK (potC g s t b n2 k)) b = some (.lst (([] : List Int).map V.int)) := by rw [upd_ne (Ne.symm hab)]; exact hb2
    have off3 : ∀ x, ¬ Or2 (One a) (One b) x → upd H2 a (.dK (potC g s t b n2 k)) x = H1 x := fun x hx => by rw [upd_ne fun z => hx (.inl z)]; exact off2 x hx
    show tRet (tOp iMod (tInt (tOp iDiv (tVar 5) (vI 1024))) (tVar 1)) { nx := fun _ H' => Q .non H', rt := Q } [some (.ref a), some (.int many), some (.ref b), none, some (.int k), some (.int n2)] (upd H2 a (.dK (potC g s t b n2 k)))
    generalize upd H2 a (.dK (potC g s t b n2 k)) = H3 at ha3 hb3 off3
    refine ⟨.int n2, rfl, n2, 1024, rfl, rfl, ⟨by decide, by decide⟩, .inl ⟨_, rfl, .int many, rfl, _, many, rfl, rfl, by omega, ?_⟩⟩
    exact fin1 off3 ⟨a, b, n2, k, [], rfl, hab, rfl, ha3, hb3, Nat.zero_le _, hc2, hcN2⟩ (mod _).1 (mod _).2 (Nat.le_refl _)
  | cons c0 cs0 =>
    refine iteT ?_
    have hl : ((c0 :: cs0).map V.int).length = cs0.length + 1 := by simp
    refine ⟨.ref b, rfl, .inl ⟨rfl, _, SqL.of hb1⟩, b, _, 0, 0, .int c0, rfl, rfl, hb1, by decide, by decide, (by rw [hl]; unfold seqIndex?; simp), rfl, ?_⟩
    have ed : ((c0 :: cs0).map V.int).eraseIdx 0 = cs0.map V.int := rfl
    have hl2 : cs0.length + 1 ≤ n0 := by simpa using hc
    rw [ed]
    have hb2 : upd H1 b (.lst (cs0.map V.int)) b = some (.lst (cs0.map V.int)) := upd_same
    have ha2 : upd H1 b (.lst (cs0.map V.int)) a = some (.dK (potC g s t b m c)) := by rw [upd_ne hab]; exact ha1
    have off2 : ∀ x, ¬ Or2 (One a) (One b) x → upd H1 b (.lst (cs0.map V.int)) x = H1 x := fun x hx => upd_ne fun z => hx (.inr z)
    show tSeq _ _ _ [some (.ref a), some (.int many), some (.ref b), some (.int c0), none, none] (upd H1 b (.lst (cs0.map V.int)))
    generalize upd H1 b (.lst (cs0.map V.int)) = H2 at ha2 hb2 off2
    refine ⟨.int c0, rfl, .int many, rfl, c0, many, rfl, rfl, _, rfl, ?_⟩
    have hN1 : c ≤ ((N + 1 : Nat) : Int) := by omega
    by_cases hge : many ≤ c0
    · rw [decide_eq_true hge]
      refine iteT ⟨.ref b, rfl, .inl ⟨rfl, _, SqL.of hb2⟩, .int c0, rfl, .int many, rfl, c0, many, rfl, rfl, ⟨by omega, by omega⟩, b, _, 0, _, rfl, rfl, hb2, ?_, by decide, by decide, ?_⟩
      · rw [List.length_map]; exact Nat.lt_of_le_of_lt (show cs0.length ≤ 1000 by omega) (by decide)
      · refine ⟨.int c0, rfl, .inl ⟨_, rfl, .int many, rfl, c0, many, rfl, rfl, by omega, ?_⟩⟩
        refine fin1 (fun x hx => ?_) ⟨a, b, m, c, (c0 / many) :: cs0, rfl, hab, rfl, by rw [upd_ne hab]; exact ha2, by rw [upd_same]; rfl, by simpa using hl2, hc0, hN1⟩ (mod _).1 (mod _).2 (Nat.le_refl _)
        rw [upd_ne fun z => hx (.inr z)]; exact off2 x hx
    · rw [decide_eq_false hge]
      refine iteF ⟨.int c0, rfl, .inl ⟨_, rfl, .int many, rfl, c0, many, rfl, rfl, by omega, ?_⟩⟩
      exact fin1 off2 ⟨a, b, m, c, cs0, rfl, hab, rfl, ha2, hb2, by omega, hc0, hN1⟩ (mod _).1 (mod _).2 (Nat.le_refl _)
end
/-- the display -/
def wDeckT (g s t : Str) (ws : WNs) : WE := fun Z ρ Q => ws Z ρ fun ns ρ1 => match ns with
  | [.lst ds, .dat (.int _), .dat (.int c)] => c = 0 ∧ ∃ n, (intsD ds fun cs => cs.length ≤ n) ∧ Q (.res (potT g s t n 0)) ρ1
  | _ => False
theorem deckT_m {A : List PyData → Prop} {ns : List N} (h : match ns with
  | [.lst ds, .dat (.int _), .dat (.int c)] => c = 0 ∧ A ds
  | _ => False) : ∃ ds m c, ns = [.lst ds, .dat (.int m), .dat (.int c)] ∧ c = 0 ∧ A ds := by
  split at h
  · exact ⟨_, _, _, rfl, h⟩
  · exact h.elim
section
variable {X : Cx} {E : EX} {g s t : Str} {e1 e2 e3 : Expr} {w1 w2 w3 : WE} {pos q1 q2 q3 : Pos} {j1 j2 j3 : Nat}
theorem deckT_road (ok : PotOk g s t) : ∀ σ H Q, rd X.K X.mg E (wDeckT g s t (nsCons w1 (nsCons w2 (nsCons w3 nsNil)))) σ H Q → tDisp [(tC (.str g), rd X.K X.mg E w1), (tC (.str s), rd X.K X.mg E w2), (tC (.str t), rd X.K X.mg E w3)] σ H Q := by
    intro σ H Q ⟨ρ, F, fps, Z, Qd, st, hw, zc, k⟩
    intro p hp
    obtain ⟨tr0, wf0, rs0, ap0⟩ := own_tr (o := .dK []) st hp
    have gs : GotS X.K ρ σ F H fps ρ σ F (upd H p (.dK [])) fps := ⟨tr0.less fun _ h => .inl h, ⟨wf0.less fun _ h => .inl h, rs0⟩, .refl⟩
    have np : ¬ Ow fps p := fun z => ap0 p rfl z
    have hP : upd H p (.dK []) p = some (.dK []) := upd_same
    have zc := zc.step gs
    have gst := gs.st
    generalize hH : upd H p (.dK []) = H0 at gs hP zc gst
    show rd X.K X.mg E w1 σ H0 fun y1 H1 => rd X.K X.mg E w2 σ H1 fun y2 H2 => rd X.K X.mg E w3 σ H2 fun y3 H3 => H3 p = some (.dK []) ∧ ∃ kvs : List (Key × V), [(V.str g, y1), (V.str s, y2), (V.str t, y3)] = kvs.map (fun kv => (kV kv.1, kv.2)) ∧ kvs.length ≤ 15 ∧ Q (.ref p) (upd H3 p (.dK (mergeK [] kvs)))
    refine ⟨ρ, F, fps, Z, _, gst, hw, zc, fun x1 v1 ρ1 F1 H1 fps1 f1 g1 hq1 => ?_⟩
    refine ⟨ρ1, F1, fps1, Z, _, g1.st, hq1, zc.step g1.s, fun x2 v2 ρ2 F2 H2 fps2 f2 g2 hq2 => ?_⟩
    refine ⟨ρ2, F2, fps2, Z, _, g2.st, hq2, (zc.step g1.s).step g2.s, fun x3 v3 ρ3 F3 H3 fps3 f3 g3 hq3 => ?_⟩
    have gg : GotL X.K ρ σ F H0 fps [(x1, v1, f1), (x2, v2, f2), (x3, v3, f3)] ρ3 σ F3 H3 fps3 := .cons g1 (.cons g2 (.cons g3 (.nil (.refl g3.st))))
    obtain ⟨ds, m, c, ex, hq3⟩ := deckT_m hq3
    injection ex with ex1 ex
    injection ex with ex2 ex
    injection ex with ex3 ex
    subst ex1 ex2 ex3
    obtain ⟨rfl, n, ⟨cs, rfl, hl⟩, hq⟩ := hq3
    obtain ⟨b, vs, e1, e2, e3, dq⟩ := gg.rn _ List.mem_cons_self
    obtain ⟨e4, d2⟩ := gg.rn (.dat (.int m), v2, f2) (by simp)
    obtain ⟨e5, d3⟩ := gg.rn (.dat (.int 0), v3, f3) (by simp)
    have ev := dq.ints
    subst ev
    cases e1
    cases d2
    cases d3
    have h3 : H3 p = some (.dK []) := gg.tr.keep p _ hP np
    have ob : One b = f1 := e2.symm
    have np3 : ∀ {x : Addr}, Or2 (Ow fps3) (OwL [(DL.N.lst (cs.map .int), V.ref b, f1), (.dat (.int m), .int m, f2), (.dat (.int 0), .int 0, f3)]) x → x ≠ p := fun {x} hx z => by
      subst z
      rcases gg.tr.sub x hx with z | z
      · exact np z
      · rw [hP] at z; cases z
    have fp3 : F3 p = none := by
      cases e : F3 p with
      | none => rfl
      | some o =>
        rcases gg.tr.new p (by cases e0 : F p with | none => rfl | some o0 => (rw [gst.wf.sub p o0 e0] at hP; have := st.wf.sub p o0 e0; rw [hp] at this; cases this)) (by rw [e]; exact fun q => nomatch q) with z | z | ⟨xs, z⟩
        · exact absurd z np
        · rw [hP] at z; cases z
        · rw [hP] at z; cases z
    have hb : b ≠ p := np3 (.inr (.inl (by show f1 b; rw [← ob]; rfl)))
    have tt := gs.tr.trans gg.tr
    refine ⟨h3, potC g s t b m 0, rfl, (by show 3 ≤ 15; decide), ?_⟩
    rw [mergeC ok]
    have o1 : ∀ {x : Addr}, Or2 (One p) (One b) x → x = p ∨ (Or2 (Ow fps3) (OwL [(DL.N.lst (cs.map .int), V.ref b, f1), (.dat (.int m), .int m, f2), (.dat (.int 0), .int 0, f3)]) x) := fun {x} hx => hx.elim .inl fun z => .inr (.inr (.inl (by show f1 x; rw [← ob]; exact z)))
    refine k (.res (potT g s t n 0)) (.ref p) ρ3 F3 (upd H3 p (.dK (potC g s t b m 0))) fps3 (Or2 (One p) (One b)) ?_ hq
    refine ⟨⟨tt.grow, tt.new, fun x o e no => ?_, fun x z => ?_⟩, ⟨fun x o e => ?_, fun x z => ?_, fun x z => ?_⟩, gg.rs.stay (.refl _) fun x hx => upd_ne (np3 (.inl hx)), gg.pk, ⟨p, b, m, 0, cs, rfl, Ne.symm hb, rfl, upd_same, by rw [upd_ne hb]; exact e3, hl, Int.le_refl _, Int.le_refl _⟩, fun x hx z => ?_⟩
    · rw [upd_ne (ne_of_none e hp)]; exact tt.keep x o e no
    · rcases z with z | z
      · exact tt.sub x (.inl z)
      · rcases o1 z with z | z
        · subst z; exact .inr hp
        · exact tt.sub x z
    · have hx : x ≠ p := fun q => by rw [q, fp3] at e; cases e
      rw [upd_ne hx]; exact gg.wf.sub x o e
    · rcases z with z | z
      · exact gg.wf.out x (.inl z)
      · rcases o1 z with z | z
        · rw [z]; exact fp3
        · exact gg.wf.out x z
    · by_cases hx : x = p
      · rw [hx, upd_same]; exact fun q => nomatch q
      · rw [upd_ne hx]
        rcases z with z | z
        · exact gg.wf.dom x (.inl z)
        · rcases o1 z with z | z
          · exact absurd z hx
          · exact gg.wf.dom x z
    · rcases o1 hx with e | e
      · exact np3 (.inl z) e
      · rcases hx with hx | hx
        · exact np3 (.inl z) hx
        · exact gg.ap x (.inl (by show f1 x; rw [← ob]; exact hx)) z
theorem d_deckT (ok : PotOk g s t) (h1 : PE X e1 (rd X.K X.mg E w1)) (h2 : PE X e2 (rd X.K X.mg E w2)) (h3 : PE X e3 (rd X.K X.mg E w3)) :
    PE X (.Dict [some (.Constant (.str g) j1 q1), some (.Constant (.str s) j2 q2), some (.Constant (.str t) j3 q3)] [e1, e2, e3] pos) (rd X.K X.mg E (wDeckT g s t (nsCons w1 (nsCons w2 (nsCons w3 nsNil))))) :=
  pe_imp (pe_disp (pps_cons pe_str h1 (pps_cons pe_str h2 (pps_cons pe_str h3 pps_nil))) rfl rfl (by simp) (by simp)) (deckT_road ok)
end
end DL

/-! isinstance(e, C), e a caught error of an own class, with or without fields, C an own class -/
namespace DL
open PySem PySem.Spec PyProof.Rows L2
/-- the classes that may come, and which of them stand under y -/
def IsTab (K : PySem.W.Frag) (mg : Str → Option Value) (y : Str) (it : List (Str × Bool)) : Prop := ∃ C, mg y = some (.ref C) ∧ ∀ x b, it.lookup x = some b → ∃ D, mg x = some (.ref D) ∧ ExcC K D ∧ PySem.W.kitOne K (.ref D) (.ref C) = some b
def rIsX (K : PySem.W.Frag) (a : Addr) (cls : Value) (d : Option Addr) : List V → Hp → VK → Prop := fun xs H Q => ∃ (C D : Addr) (b : Bool), xs = [.ref a, .ref C] ∧ cls = .ref D ∧ ExcC K D ∧ PySem.W.kitOne K (.ref D) (.ref C) = some b ∧ (d = none ∨ ∃ dd fs, d = some dd ∧ H dd = some (.xd fs)) ∧ Q (.bl b) H
theorem call_isX {X : Cx} {a : Addr} {oe : Obj} {cls : Value} {d : Option Addr} {pn : List (Addr × Obj)} (hz : L2.Zc cls d oe) (hf : ∃ vs, oe.data = .fields vs) : CallR (X.suite a ((a, oe) :: pn)) (.builtin "isinstance") (rIsX X.K a cls d) := by
  intro pins s σ H xs us Q I r h
  obtain ⟨C, D, b, rfl, rfl, T, e, hd, q⟩ := h
  obtain ⟨u1, u2, rfl, r1, r2⟩ := vals2 r
  obtain rfl : u1 = Value.ref a := r1
  obtain rfl : u2 = Value.ref C := r2
  obtain ⟨ha, _⟩ := I.pin (a, oe) (List.mem_append_left _ List.mem_cons_self)
  obtain ⟨vs, hv⟩ := hf
  obtain ⟨od, J⟩ : ∃ od, PySem.W.InstAt s.heap a oe D od := by
    rcases hd with rfl | ⟨dd, fs, rfl, ea⟩
    · exact ⟨none, ha, hz.1, by unfold PySem.W.notCls; rw [hv] <;> rfl, by rw [hz.2]; trivial⟩
    · have hx : ObjOk X.prog X.w H s.heap dd (.xd fs) := I.hok dd _ ea
      obtain ⟨mA, hns, hr⟩ := hx
      obtain ⟨od, ho, hl⟩ := lookIn_ns hns
      exact ⟨some od, ha, hz.1, by unfold PySem.W.notCls; rw [hv] <;> rfl, by rw [hz.2]; exact ho⟩
  have hc : (PySem.W.clsIn X.K D).isSome = true := by
    obtain ⟨cd, hc, _⟩ := PySem.W.any_some T.hd
    rw [hc]
    rfl
  exact PySem.W.kia_one (PySem.W.kitx_exc hc T.hg T.hk T.hs T.ha T.hn T.ht T.hm) I.kIn J e (fun z => nomatch z) fun tk => ⟨.bl b, H, I.kept (t' := tk) fun _ _ z => z, rfl, q⟩
/-- c: the class that came -/
def wXi (i : Nat) (it : List (Str × Bool)) (c : Str) (a : Addr) (cls : Value) (d : Option Addr) : WE := fun _ ρ Q => match ρ[i]? with
  | some (.v (.exc a' _ cls' d')) => a' = a ∧ cls' = cls ∧ d' = d ∧ (match it.lookup c with
    | some b => Q (.dat (.bool b)) ρ
    | none => False)
  | _ => False
/-- try .. except C as e, the suite told by the class that came -/
def sTryX (tab : List (Str × Bool)) (i : Nat) (wb : WS) (h : Str → Addr → Value → Option Addr → WS) : WS := fun Z D ρ => wb (fun x ρ1 => match tab.lookup x.cls with
  | some true => notP ρ1 i ∧ ∀ a cls d, h x.cls a cls d Z0 (retD D) (ρ1.set i (.v (.exc a x cls d)))
  | some false => Z x ρ1
  | none => False) D ρ
section
variable {X : Cx} {E : EX} {k : Nat} {c n : Str} {i : Nat} {body suite : List Stmt} {b₀ : Stmt} {np pos pos' : Pos} {wb : WS} {tab : List (Str × Bool)}
theorem s_tryX {h : Str → Addr → Value → Option Addr → WS} (B : Bd X k E) (T : ExTab X.K X.mg c tab) (hgl : Gl X c) (hs : X.stack = X.env :: X.outer) (hf : X.env.frame = some X.env.locals) (hi : X.N[i]? = some n) (hln : X.env.kindOf n = some .local)
    (hb : ∀ {pn : List (Addr × Obj)} {xe : Value → Shared → Prop} {E' : EX}, Bd (X.tr pn xe) k E' → PSs (X.tr pn xe) body (rs X.K X.mg E' wb))
    (hsu : ∀ (cc : Str) (a : Addr) (oe : Obj) (cls : Value) (d : Option Addr) (pn : List (Addr × Obj)), L2.Zc cls d oe → (∃ vs, oe.data = .fields vs) → X.mg cc = some cls → tab.lookup cc = some true → PSs (X.suite a ((a, oe) :: pn)) (b₀ :: suite) (rs X.K X.mg EF (h cc a cls d)))
    (hdb : (c == ("__debug__" : Str)) = false := by decide) :
    PS X (.Try body [.ExceptHandler (some (.Name c np)) (some n) (b₀ :: suite) pos'] [] [] pos) (rs X.K X.mg E (sTryX tab i wb h)) := by
  obtain ⟨C, hC, ht⟩ := T
  refine ps_imp (ps_try_as (i := i) (tb := fun W => rs X.K X.mg (fun σ cls d H => W cls d σ H) wb) (ts := fun a cls d D σ H => ∃ c', X.mg c' = some cls ∧ tab.lookup c' = some true ∧ rs X.K X.mg EF (h c' a cls d) D σ H) hs hf B.nd hi hln ⟨hgl, hdb, .inl hC⟩ B.tk (fun W pn xe tk own => hb (B.tr tk own)) fun a oe cls d pn hz hd => ⟨fun pins s σ H D I q => by obtain ⟨c', q1, q2, q3⟩ := q; exact (hsu c' a oe cls d pn hz hd q1 q2).run pins s σ H D I q3⟩) fun D σ H hh => ?_
  obtain ⟨ρ, F, fps, Z, DD, st, sc, hw⟩ := rs_open hh
  refine ⟨ρ, F, fps, _, DD, st, hw, fun x ρ' σ' F' H' fps' cls d g r q => ?_, sc.s, sc.r⟩
  obtain ⟨⟨Cx, hx, rfl⟩, rf⟩ := r
  dsimp only at q
  cases e : tab.lookup x.cls with
  | none => rw [e] at q; exact q.elim
  | some b =>
    rw [e] at q
    refine ⟨b, ht _ _ _ e hx, fun eb a na => ?_, fun eb => ?_⟩
    · subst eb
      obtain ⟨np, q⟩ := q
      have ge := Got.exc (mg := X.mg) (a := a) g.st ⟨⟨Cx, hx, rfl⟩, rf⟩
      have gs := ge.store np
      have gg := g.trans gs
      refine ⟨x.cls, hx, e, _, _, _, Z0, retD DD, gs.st, q a (.ref Cx) d, ZC0, fun ρ2 σ2 F2 H2 fps2 g2 => ⟨fun z => z.elim, fun z => z.elim, fun z => z.elim⟩, fun nn v ρ2 σ2 F2 H2 fps2 fv g2 z => sc.r _ _ _ _ _ _ _ _ (g2.after gg) z⟩
    · subst eb
      exact sc.z x _ _ _ _ _ _ _ g ⟨⟨Cx, hx, rfl⟩, rf⟩ q
end
section
variable {X : Cx} {i : Nat} {n y c : Str} {a : Addr} {oe : Obj} {cls : Value} {d : Option Addr} {pn : List (Addr × Obj)} {p p1 p2 pos : Pos} {it : List (Str × Bool)}
theorem d_xi {x : Str} (T : IsTab X.K X.mg y it) (hcl : X.mg c = some cls) (hz : L2.Zc cls d oe) (hf : ∃ vs, oe.data = .fields vs) (hg : Gl (X.suite a ((a, oe) :: pn)) "isinstance") (hm : X.mg "isinstance" = none) (hv : bootBuiltins "isinstance" = some (.builtin "isinstance")) (hgy : Gl (X.suite a ((a, oe) :: pn)) y)
    (he : PE (X.suite a ((a, oe) :: pn)) (.Name x p) (tVar i)) (hdy : (y == ("__debug__" : Str)) = false := by decide)
    (h1 : starEach [.Name x p, .Name y p2] X.env = (false, eval (.Name x p) X.env) :: starEach [.Name y p2] X.env := by rfl) (h2 : starEach [.Name y p2] X.env = (false, eval (.Name y p2) X.env) :: starEach [] X.env := by rfl) (hpl : (backTo pos (starEach [.Name y p2] X.env)).any (·.1) = false := by rfl) :
    PE (X.suite a ((a, oe) :: pn)) (.Call (.Name "isinstance" p1) [.Name x p, .Name y p2] [] pos) (rd X.K X.mg EF (wXi i it c a cls d)) := by
  obtain ⟨C, hC, T⟩ := T
  refine pe_imp (pe_callB (call_isX hz hf) hg hm hv (pa_cons he (pa_cons (pe_glob hgy hC (v := .ref C) rfl hdy) pa_nil h2) h1) (by decide) (by decide) h1 hpl) fun σ H Q ⟨ρ, F, fps, Z, Qd, st, hw, zc, k⟩ => ?_
  unfold wXi at hw
  cases e : ρ[i]? with
  | none => rw [e] at hw; exact hw.elim
  | some sl =>
    rw [e] at hw
    cases sl with
    | e => exact hw.elim
    | p => exact hw.elim
    | v nn =>
      cases nn with
      | exc a' x' cls' d' =>
        obtain ⟨rfl, rfl, rfl, hw⟩ := hw
        obtain ⟨v, hv, _, rfl, fl⟩ := st.rs.rel i _ (.inl e)
        cases el : it.lookup c with
        | none => rw [el] at hw; exact hw.elim
        | some b =>
          rw [el] at hw
          obtain ⟨D, t0, t1, t2⟩ := T _ _ el
          rw [hcl] at t0
          cases t0
          refine ⟨.ref a', hv, C, D, b, rfl, rfl, t1, t2, ?_, k _ _ _ _ _ _ _ (.here st (.bl b)) hw⟩
          rcases fl with fl | ⟨dx, fs, rfl, e1, _, _⟩
          · exact .inl fl.2
          · exact .inr ⟨dx, fs, rfl, st.wf.sub _ _ e1⟩
      | _ => exact hw.elim
end
section
variable {h : Heap} {K : PySem.W.Frag} {mg : Str → Option Value}
theorem isTab_mk {c : Str} {C : Addr} {tab : List (Str × Bool)} (X : K.In h) (G : h.Ns mainGlobals mg) (a : PySem.W.nsIn K mainGlobals c = some (some (.ref C)))
    (t : ∀ p ∈ tab, ∃ D, PySem.W.nsIn K mainGlobals p.1 = some (some (.ref D)) ∧ ExcC K D ∧ PySem.W.kitOne K (.ref D) (.ref C) = some p.2) : IsTab K mg c tab := by
  refine ⟨C, PySem.W.mg_of X G a, fun x b hl => ?_⟩
  have hm2 : (x, b) ∈ tab := by
    clear t
    induction tab with
    | nil => cases hl
    | cons p r ih =>
      obtain ⟨y, d⟩ := p
      rw [List.lookup_cons] at hl
      cases e : x == y with
      | true => rw [e] at hl; cases hl; rw [beq_iff_eq.mp e]; exact List.mem_cons_self
      | false => rw [e] at hl; exact List.mem_cons_of_mem _ (ih hl)
  obtain ⟨D, h1, h2, h3⟩ := t _ hm2
  exact ⟨D, PySem.W.mg_of X G h1, h2, h3⟩
end
end DL

namespace K22
open PySem PySem.Spec PyProof.Rows L2 DL
def topS (i : Nat) : Stmt := PySem.Challenge.pw_fullhills_k22_whole_conjugates.main.body.getD i (.Pass ⟨0, 0, 0, 0⟩)
abbrev st_times : Stmt := topS 6
abbrev st_gain : Stmt := topS 8
abbrev st_conjugate_at : Stmt := topS 10
abbrev st_tables_between : Stmt := topS 11
abbrev st_conjugate_hill : Stmt := topS 12
abbrev st__law_pot : Stmt := topS 14
abbrev st__law_draw : Stmt := topS 15
abbrev st__law_pick : Stmt := topS 16
abbrev st__law_mixed : Stmt := topS 17
abbrev st__law_box : Stmt := topS 18
abbrev st__law_sides : Stmt := topS 19
abbrev st__law_bend : Stmt := topS 20
abbrev st__law_bent : Stmt := topS 21
abbrev st__law_shift : Stmt := topS 22
abbrev st__law_l_hill : Stmt := topS 23
abbrev st__law_m_hill : Stmt := topS 24
abbrev st__law_any_hill : Stmt := topS 25
abbrev st__law_hill : Stmt := topS 26
abbrev st__law_times : Stmt := topS 27
abbrev st__law_prices : Stmt := topS 28
abbrev st__law_greatest : Stmt := topS 29
abbrev st__law_due : Stmt := topS 30
abbrev st__law_asked : Stmt := topS 31
abbrev st__law_room : Stmt := topS 32
abbrev st_law : Stmt := topS 33
theorem potOk : PotOk "great" "stirred" "turn" := ⟨by decide +kernel, by decide +kernel, by decide +kernel⟩
abbrev si_TooMany : Stmt := initS (topS 4)
theorem it_TooMany : IniT1 si_TooMany "TooMany.__init__" "limit" := ⟨⟨⟨_, rfl, rfl⟩, rfl, rfl, rfl, rfl, by decide +kernel, rfl, rfl⟩, rfl, by decide, by decide, fun _ _ _ _ _ _ _ _ _ _ => .of_eq rfl, fun _ _ _ _ => rfl, ⟨_, _, _, _, _, _, _, _, _, _, rfl, fun _ _ _ _ => rfl, fun _ _ _ _ => rfl, fun _ _ _ _ => rfl, fun _ _ _ _ => rfl⟩⟩
def tabX_TooMany : List (Str × Bool) := [("TooMany", true)]
def tabI_TooMany_HillError : List (Str × Bool) := [("TooMany", true)]
theorem tabX_TooMany_one : ∀ c, tabX_TooMany.lookup c = some true → c = "TooMany" := fun c h => by
  unfold tabX_TooMany at h
  simp only [List.lookup_cons, List.lookup_nil] at h
  repeat (first | exact absurd h (by decide) | (split at h; first | (rename_i e; exact beq_iff_eq.mp e) | exact absurd h (by decide) | skip))
/-! times -/
theorem sc_times : FnScope ["prices", "point", "price", "item"] ["prices", "point"] (defScope st_times) := ⟨rfl, rfl, rfl, by decide +kernel, rfl, by decide +kernel, by decide +kernel⟩
theorem bp_times : BindP "times" st_times ["prices", "point"] 2 := fun _ _ _ _ _ _ us hl => match us, hl with | [_, _], _ => rfl
def w_times : WS := (sRet (wB1 (oB bSum) (aCons (xD (wLc (iZip (aCons (xD (wV 0)) (aCons (xD (wV 1)) aNil))) [2, 3] (gsN 2 (gCons' (gN 2) (gCons' (gN 3) gNil'))) wYes (wO oMul (xO 2) (xO 3)))) aNil)))
def dsp_times : DSp := dspOf 4 w_times
theorem ok_times {P : Program} {w : World} {K : PySem.W.Frag} {mg : Str → Option Value} {base : Heap} {k : Nat} {f : Addr} {fd : FuncData}  (m_sum : mg "sum" = none) (m_zip : mg "zip" = none)       (F : Fun K "times" "times" st_times f fd) : FnG P w K mg base (k + 1) f fd ["prices", "point"] (toSp K mg 2 dsp_times) :=
  fun_does F sc_times fun cdv A outer s H E C => (ss_one (s_ret (d_callB (bd_call (bd_sum C.calm)) (by rfl) m_sum boot_sum (a_cons (x_d (d_lc C.calm C.nd (own := [("price", 2), ("item", 3)]) (blkOk_by (by rfl)) (i_zip (by rfl) m_zip (a_cons (x_d (d_var (pv 0))) (a_cons (x_d (d_var (pv 1))) a_nil))) (fun _ _ _ _ _ => (g_tup (n := 2) C.blk.calm (gs_cons (g_name (is := [2, 3]) (i := 2) C.blk.nd) (gs_cons (g_name (is := [2, 3]) (i := 3) C.blk.nd) gs_nil)))) (fun _ _ _ _ _ => ts_nil) (fun _ _ _ _ _ => (d_bin opd_mul (x_o (pv 2)) (x_o (pv 3)))))) a_nil))))
/-! gain -/
theorem sc_gain : FnScope ["prices", "pair"] ["prices", "pair"] (defScope st_gain) := ⟨rfl, rfl, rfl, by decide +kernel, rfl, by decide +kernel, by decide +kernel⟩
theorem bp_gain : BindP "gain" st_gain ["prices", "pair"] 2 := fun _ _ _ _ _ _ us hl => match us, hl with | [_, _], _ => rfl
def w_gain : WS := (sRet (wO oSub (xD (wCall 2 dsp_times (aCons (xD (wV 0)) (aCons (xD (wO oIxA (xO 1) (xD (wC (.int 0))))) aNil)))) (xD (wO oIxA (xO 1) (xD (wC (.int 1)))))))
def dsp_gain : DSp := dspOf 2 w_gain
theorem ok_gain {P : Program} {w : World} {K : PySem.W.Frag} {mg : Str → Option Value} {base : Heap} {k : Nat} {f : Addr} {fd : FuncData} (G_times : Cal P w K mg base (k) "times" st_times ["prices", "point"] dsp_times)        (F : Fun K "gain" "gain" st_gain f fd) : FnG P w K mg base (k + 1) f fd ["prices", "pair"] (toSp K mg 2 dsp_gain) :=
  fun_does F sc_gain fun cdv A outer s H E C => (ss_one (s_ret (d_bin opd_sub (x_d (d_call C G_times (by rfl) bp_times (a_cons (x_d (d_var (pv 0))) (a_cons (x_d (d_ixA C.u1 (x_o (pv 1)) (x_d d_int))) a_nil)))) (x_d (d_ixA C.u1 (x_o (pv 1)) (x_d d_int))))))
/-! conjugate_at -/
theorem sc_conjugate_at : FnScope ["hill", "prices", "pair"] ["hill", "prices"] (defScope st_conjugate_at) := ⟨rfl, rfl, rfl, by decide +kernel, rfl, by decide +kernel, by decide +kernel⟩
theorem bp_conjugate_at : BindP "conjugate_at" st_conjugate_at ["hill", "prices"] 2 := fun _ _ _ _ _ _ us hl => match us, hl with | [_, _], _ => rfl
def w_conjugate_at : WS := (sRet (wB1 (oB bMx1) (aCons (xD (wLc (iSq (wV 0)) [2] (gN 2) wYes (wCall 2 dsp_gain (aCons (xD (wV 1)) (aCons (xD (wV 2)) aNil))))) aNil)))
def dsp_conjugate_at : DSp := dspOf 3 w_conjugate_at
theorem ok_conjugate_at {P : Program} {w : World} {K : PySem.W.Frag} {mg : Str → Option Value} {base : Heap} {k : Nat} {f : Addr} {fd : FuncData} (G_gain : Cal P w K mg base (k) "gain" st_gain ["prices", "pair"] dsp_gain) (m_max : mg "max" = none)       (F : Fun K "conjugate_at" "conjugate_at" st_conjugate_at f fd) : FnG P w K mg base (k + 1) f fd ["hill", "prices"] (toSp K mg 2 dsp_conjugate_at) :=
  fun_does F sc_conjugate_at fun cdv A outer s H E C => (ss_one (s_ret (d_callB (bd_call (bd_max1 C.calm C.u60)) (by rfl) m_max boot_max (a_cons (x_d (d_lc C.calm C.nd (own := [("pair", 2)]) (blkOk_by (by rfl)) (i_seq (l := false) (d_var (pv 0))) (fun _ _ _ _ _ => (g_name (is := [2]) (i := 2) C.blk.nd)) (fun _ _ _ _ _ => ts_nil) (fun _ _ _ _ _ => (d_call C.blk G_gain (by rfl) bp_gain (a_cons (x_d (d_var (pv 1))) (a_cons (x_d (d_var (pv 2))) a_nil)))))) a_nil))))
/-! tables_between -/
theorem sc_tables_between : FnScope ["low", "high", "most", "many", "one", "other", "found", "longer", "row", "price"] ["low", "high", "most"] (defScope st_tables_between) := ⟨rfl, rfl, rfl, by decide +kernel, rfl, by decide +kernel, by decide +kernel⟩
theorem bp_tables_between : BindP "tables_between" st_tables_between ["low", "high", "most"] 3 := fun _ _ _ _ _ _ us hl => match us, hl with | [_, _, _], _ => rfl
def w_tables_between : WS := (sSeq (sSet 3 (wC (.int 1))) (sSeq (sFor (iZip (aCons (xD (wV 0)) (aCons (xD (wV 1)) aNil))) (gsN 2 (gCons' (gN 4) (gCons' (gN 5) gNil'))) (sSet 3 (wO oMul (xO 3) (xD (wO oCat (xD (wO oSub (xO 5) (xO 4))) (xD (wC (.int 1)))))))) (sSeq (sIf (wB (wO oGt (xO 3) (xO 2))) (sRs1 "TooMany" "limit" (wV 2)) sNil) (sSeq (sSet 6 (wLst (aCons (xD (wTup aNil)) aNil))) (sSeq (sFor (iZip (aCons (xD (wV 0)) (aCons (xD (wV 1)) aNil))) (gsN 2 (gCons' (gN 4) (gCons' (gN 5) gNil'))) (sSeq (sSetN 7 (wLst aNil)) (sSeq (sFor (iSq (wV 6)) (gN 8) (sExp (wMt 7 mExt (aCons (xD (wLc (iRg2 (aCons (xO 4) (aCons (xD (wO oCat (xO 5) (xD (wC (.int 1))))) aNil))) [9] (gN 9) wYes (wO oCat (xO 8) (xD (wTup (aCons (xD (wV 9)) aNil)))))) aNil)))) (sSet 6 (wV 7))))) (sRet (wV 6)))))))
def dsp_tables_between : DSp := dspOf 10 w_tables_between
theorem ok_tables_between {P : Program} {w : World} {K : PySem.W.Frag} {mg : Str → Option Value} {base : Heap} {k : Nat} {f : Addr} {fd : FuncData}  (m_range : mg "range" = none) (m_zip : mg "zip" = none)   (T_TooMany : ExK1 P w K mg "TooMany" "limit")    (F : Fun K "tables_between" "tables_between" st_tables_between f fd) : FnG P w K mg base (k + 3) f fd ["low", "high", "most"] (toSp K mg 3 dsp_tables_between) :=
  fun_does F sc_tables_between fun cdv A outer s H E C => (ss_cons (s_set (i := 3) C.nd (by rfl) (by first | exact Or.inl rfl | exact Or.inr rfl) d_int) (ss_cons (s_for C.own C.calm (i_zip (by rfl) m_zip (a_cons (x_d (d_var (pv 0))) (a_cons (x_d (d_var (pv 1))) a_nil))) (g_tup (n := 2) C.calm (gs_cons (g_name (is := [4, 5]) (i := 4) C.nd) (gs_cons (g_name (is := [4, 5]) (i := 5) C.nd) gs_nil))) (ss_one (s_set (i := 3) C.nd (by rfl) (by first | exact Or.inl rfl | exact Or.inr rfl) (d_bin opd_mul (x_o (pv 3)) (x_d (d_bin opd_add (x_d (d_bin opd_sub (x_o (pv 5)) (x_o (pv 4)))) (x_d d_int))))))) (ss_cons (s_if (t_cmp (opd_gtD C.u64) (x_o (pv 3)) (x_o (pv 2))) (ss_one (s_rs1 C (by omega) T_TooMany (by rfl) (d_var (pv 2)))) ss_nil) (ss_cons (s_set (i := 6) C.nd (by rfl) (by first | exact Or.inl rfl | exact Or.inr rfl) (d_lst (a_cons (x_d (d_tup a_nil)) a_nil))) (ss_cons (s_for C.own C.calm (i_zip (by rfl) m_zip (a_cons (x_d (d_var (pv 0))) (a_cons (x_d (d_var (pv 1))) a_nil))) (g_tup (n := 2) C.calm (gs_cons (g_name (is := [4, 5]) (i := 4) C.nd) (gs_cons (g_name (is := [4, 5]) (i := 5) C.nd) gs_nil))) (ss_cons (s_setN (i := 7) C.nd (by rfl) (by first | exact Or.inl rfl | exact Or.inr rfl) (d_lst a_nil)) (ss_cons (s_for C.own C.calm (i_seq (l := false) (d_var (pv 6))) (g_name (is := [8]) (i := 8) C.nd) (ss_one (s_exp (d_mt m_ext PySem.F.slot_list_extend PySem.F.type_list_extend (pv 7) (a_cons (x_d (d_lc C.calm C.nd (own := [("price", 9)]) (blkOk_by (by rfl)) (i_rg2 (l := false) (by rfl) m_range (a_cons (x_o (pv 4)) (a_cons (x_d (d_bin opd_add (x_o (pv 5)) (x_d d_int))) a_nil))) (fun _ _ _ _ _ => (g_name (is := [9]) (i := 9) C.blk.nd)) (fun _ _ _ _ _ => ts_nil) (fun _ _ _ _ _ => (d_bin opd_add (x_o (pv 8)) (x_d (d_tup (a_cons (x_d (d_var (pv 9))) a_nil))))))) a_nil))))) (ss_one (s_set (i := 6) C.nd (by rfl) (by first | exact Or.inl rfl | exact Or.inr rfl) (d_var (pv 7))))))) (ss_one (s_ret (d_var (pv 6)))))))))
/-! conjugate_hill -/
theorem sc_conjugate_hill : FnScope ["hill", "low", "high", "found", "prices", "worth"] ["hill", "low", "high"] (defScope st_conjugate_hill) := ⟨rfl, rfl, rfl, by decide +kernel, rfl, by decide +kernel, by decide +kernel⟩
theorem bp_conjugate_hill : BindP "conjugate_hill" st_conjugate_hill ["hill", "low", "high"] 3 := fun _ _ _ _ _ _ us hl => match us, hl with | [_, _, _], _ => rfl
def w_conjugate_hill : WS := (sSeq (sSet 3 (wB1 (oB bTup) (aCons (xD (wLc (iSq (wCall 3 dsp_tables_between (aCons (xD (wV 1)) (aCons (xD (wV 2)) (aCons (xD (wC (.int 50))) aNil))))) [4] (gN 4) wYes (wTup (aCons (xD (wV 4)) (aCons (xD (wCall 2 dsp_conjugate_at (aCons (xD (wV 0)) (aCons (xD (wV 4)) aNil)))) aNil))))) aNil))) (sSeq (sIf (wNot (wB (wB1 (oB bAll) (aCons (xD (wLc (iSq (wV 3)) [4, 5] (gsN 2 (gCons' (gN 4) (gCons' (gN 5) gNil'))) wYes (wCh oLe oLe (xD (wU oNeg (xD (wC (.int 1000))))) (xO 5) (xD (wC (.int 1000)))))) aNil)))) (sRs1 "TooMany" "limit" (wC (.int 1000))) sNil) (sRet (wV 3))))
def dsp_conjugate_hill : DSp := dspOf 6 w_conjugate_hill
theorem ok_conjugate_hill {P : Program} {w : World} {K : PySem.W.Frag} {mg : Str → Option Value} {base : Heap} {k : Nat} {f : Addr} {fd : FuncData} (G_conjugate_at : Cal P w K mg base (k + 2) "conjugate_at" st_conjugate_at ["hill", "prices"] dsp_conjugate_at) (G_tables_between : Cal P w K mg base (k + 2) "tables_between" st_tables_between ["low", "high", "most"] dsp_tables_between) (m_all : mg "all" = none) (m_tuple : mg "tuple" = none) (g_MAX_POINTS : ∃ t, mg "MAX_POINTS" = some (.int 50 t)) (g_MAX_WORTH : ∃ t, mg "MAX_WORTH" = some (.int 1000 t))  (T_TooMany : ExK1 P w K mg "TooMany" "limit")    (F : Fun K "conjugate_hill" "conjugate_hill" st_conjugate_hill f fd) : FnG P w K mg base (k + 3) f fd ["hill", "low", "high"] (toSp K mg 3 dsp_conjugate_hill) :=
  fun_does F sc_conjugate_hill fun cdv A outer s H E C => (ss_cons (s_set (i := 3) C.nd (by rfl) (by first | exact Or.inl rfl | exact Or.inr rfl) (d_callT (bd_call bd_tup) (by rfl) m_tuple boot_tuple (a_cons (x_d (d_lc C.calm C.nd (own := [("prices", 4)]) (blkOk_by (by rfl)) (i_seq (l := false) (d_call C G_tables_between (by rfl) bp_tables_between (a_cons (x_d (d_var (pv 1))) (a_cons (x_d (d_var (pv 2))) (a_cons (x_d (d_gI (by rfl) g_MAX_POINTS)) a_nil))))) (fun _ _ _ _ _ => (g_name (is := [4]) (i := 4) C.blk.nd)) (fun _ _ _ _ _ => ts_nil) (fun _ _ _ _ _ => (d_tup (a_cons (x_d (d_var (pv 4))) (a_cons (x_d (d_call C.blk G_conjugate_at (by rfl) bp_conjugate_at (a_cons (x_d (d_var (pv 0))) (a_cons (x_d (d_var (pv 4))) a_nil)))) a_nil)))))) a_nil))) (ss_cons (s_if (t_not (t_val (d_callB (bd_call (bd_all C.calm)) (by rfl) m_all boot_all (a_cons (x_d (d_lc C.calm C.nd (own := [("prices", 4), ("worth", 5)]) (blkOk_by (by rfl)) (i_seq (l := false) (d_var (pv 3))) (fun _ _ _ _ _ => (g_tup (n := 2) C.blk.calm (gs_cons (g_name (is := [4, 5]) (i := 4) C.blk.nd) (gs_cons (g_name (is := [4, 5]) (i := 5) C.blk.nd) gs_nil)))) (fun _ _ _ _ _ => ts_nil) (fun _ _ _ _ _ => (d_ch (opd_leD C.blk.u64) (opd_leD C.blk.u64) (x_d (d_un und_neg (x_d (d_gI (by rfl) g_MAX_WORTH)))) (x_o (pv 5)) (x_d (d_gI (by rfl) g_MAX_WORTH)))))) a_nil)))) (ss_one (s_rs1 C (by omega) T_TooMany (by rfl) (d_gI (by rfl) g_MAX_WORTH))) ss_nil) (ss_one (s_ret (d_var (pv 3))))))
/-! _law_pot -/
theorem sc__law_pot : FnScope ["script", "cells", "stirred", "cell"] ["script"] (defScope st__law_pot) := ⟨rfl, rfl, rfl, by decide +kernel, rfl, by decide +kernel, by decide +kernel⟩
theorem bp__law_pot : BindP "_law_pot" st__law_pot ["script"] 1 := fun _ _ _ _ _ _ us hl => match us, hl with | [_], _ => rfl
def w__law_pot : WS := (sSeq (sPar [1, 2] (nsCons (wF (wLc (iSq (wScrTo 0 (pSo (xD (wC (.int 61)))))) [3] (gN 3) wYes (wO oCat (xD (wO oMul (xD (wC (.int 2))) (xD (wB1 (oB bAbs) (aCons (xO 3) aNil))))) (xD (wB1 (oB bInt) (aCons (xD (wO oLt (xO 3) (xD (wC (.int 0))))) aNil)))))) (nsCons (wF (wO oCat (xD (wC (.int 16244))) (xD (wO oMul (xD (wC (.int 3))) (xD (wScrLen 0)))))) nsNil))) (sSeq (sFor (iSq (wV 1)) (gN 3) (sSet 2 (wO oMod (xD (wB1 (oB bInt) (aCons (xD (wO oCat (xD (wO oCat (xD (wO oMul (xO 2) (xD (wC (.int 69069))))) (xO 3))) (xD (wC (.int 13))))) aNil))) (xD (wC (.int 4294967291)))))) (sRet (wDeckT "great" "stirred" "turn" (nsCons (wLc (iSq (wV 1)) [3] (gN 3) (wB (wO oGe (xO 3) (xD (wO oPow (xD (wC (.int 10))) (xD (wC (.int 16))))))) (wV 3)) (nsCons (wV 2) (nsCons (wC (.int 0)) nsNil)))))))
def dsp__law_pot : DSp := dspOf 4 w__law_pot
theorem ok__law_pot {P : Program} {w : World} {K : PySem.W.Frag} {mg : Str → Option Value} {base : Heap} {k : Nat} {f : Addr} {fd : FuncData}  (m_abs : mg "abs" = none) (m_int : mg "int" = none) (m_len : mg "len" = none)       (F : Fun K "_law_pot" "_law_pot" st__law_pot f fd) : FnG P w K mg base (k + 1) f fd ["script"] (toSp K mg 1 dsp__law_pot) :=
  fun_does F sc__law_pot fun cdv A outer s H E C => (ss_cons (s_par (i := 1) (j := 2) C.calm C.nd (n_cons (d_fz (d_lc C.calm C.nd (own := [("cell", 3)]) (blkOk_by (by rfl)) (i_seq (l := false) (d_scrTo (pv 0) (o_so (x_d d_int)))) (fun _ _ _ _ _ => (g_name (is := [3]) (i := 3) C.blk.nd)) (fun _ _ _ _ _ => ts_nil) (fun _ _ _ _ _ => (d_bin opd_add (x_d (d_bin opd_mul (x_d d_int) (x_d (d_callB (bd_call bd_abs) (by rfl) m_abs boot_abs (a_cons (x_o (pv 3)) a_nil))))) (x_d (d_callT (bd_call bd_int) (by rfl) m_int boot_int (a_cons (x_d (d_cmp (opd_ltD C.blk.u64) (x_o (pv 3)) (x_d d_int))) a_nil))))))) (n_cons (d_fz (d_bin opd_add (x_d d_int) (x_d (d_bin opd_mul (x_d d_int) (x_d (d_scrLen (pv 0) (by rfl) m_len)))))) n_nil))) (ss_cons (s_for C.own C.calm (i_seq (l := false) (d_var (pv 1))) (g_name (is := [3]) (i := 3) C.nd) (ss_one (s_set (i := 2) C.nd (by rfl) (by first | exact Or.inl rfl | exact Or.inr rfl) (d_bin opd_mod (x_d (d_callT (bd_call bd_int) (by rfl) m_int boot_int (a_cons (x_d (d_bin opd_add (x_d (d_bin opd_add (x_d (d_bin opd_mul (x_o (pv 2)) (x_d d_int))) (x_o (pv 3)))) (x_d d_int))) a_nil))) (x_d d_int))))) (ss_one (s_ret (d_deckT potOk (d_lc C.calm C.nd (own := [("cell", 3)]) (blkOk_by (by rfl)) (i_seq (l := false) (d_var (pv 1))) (fun _ _ _ _ _ => (g_name (is := [3]) (i := 3) C.blk.nd)) (fun _ _ _ _ _ => (ts_one (t_cmp (opd_geD C.blk.u64) (x_o (pv 3)) (x_d (d_bin opd_pow (x_d d_int) (x_d d_int)))))) (fun _ _ _ _ _ => (d_var (pv 3)))) (d_var (pv 2)) d_int)))))
/-! _law_draw -/
theorem sc__law_draw : FnScope ["pot", "many", "great", "cell", "turn", "mixed"] ["pot", "many"] (defScope st__law_draw) := ⟨rfl, rfl, rfl, by decide +kernel, rfl, by decide +kernel, by decide +kernel⟩
theorem bp__law_draw : BindP "_law_draw" st__law_draw ["pot", "many"] 2 := fun _ _ _ _ _ _ us hl => match us, hl with | [_, _], _ => rfl
def dsp__law_draw : DSp := dspDrawT "great" "stirred" "turn" 61
theorem ok__law_draw {P : Program} {w : World} {K : PySem.W.Frag} {mg : Str → Option Value} {base : Heap} {k : Nat} {f : Addr} {fd : FuncData}  (m_int : mg "int" = none)       (F : Fun K "_law_draw" "_law_draw" st__law_draw f fd) : FnG P w K mg base (k + 1) f fd ["pot", "many"] (toSp K mg 2 dsp__law_draw) :=
  fun_enter F sc__law_draw (fun _ _ _ _ h => h.1) fun cdv A outer s H vs Q E room hg h =>
    have B : Bd (cxOf (L2.CX P w) P w K mg base ["pot", "many", "great", "cell", "turn", "mixed"] "_law_draw" (defScope st__law_draw) f cdv A outer s H E) k (fun _ => E) := bd_of room hg sc__law_draw
    ⟨tStir K "great" "stirred" "turn", (pss_cons (ps_set (i := 2) B.nd (by rfl) (.inl rfl) (pe_ix (ix_dct B.u1) (pv 0) pe_str (fun _ _ => rfl)))
    (pss_cons (ps_if (pt_cmpR (op_neF B.u64) (pv 2) (pe_lst pa_nil) (by first | exact nobehind _ (by decide) (by decide) | rfl))
      (pss_cons (ps_set (i := 3) B.nd (by rfl) (.inl rfl) (pe_bm PySem.F.plainAttrs_list PySem.F.slot_list_pop PySem.F.type_list_pop mt_popAt (pv 2) (pa_cons pe_int pa_nil)))
        (pss_cons (ps_if (pt_cmpR op_ge (pv 3) (pv 1) (by first | exact nobehind _ (by decide) (by decide) | rfl)) (pss_one (ps_expr (pe_bm PySem.F.plainAttrs_list PySem.F.slot_list_insert PySem.F.type_list_insert mt_insert (pv 2) (pa_cons pe_int (pa_cons (pe_op op_fdiv (pv 3) (pv 1)) pa_nil))))) pss_nil)
          (pss_one (ps_ret (pe_op op_mod (pe_callTy call_int1 (by rfl) m_int boot_int (pa_cons (pv 3) pa_nil)) (pv 1)))))) pss_nil)
    (pss_cons (ps_asg (pe_op op_add (pe_ix (ix_dct B.u1) (pv 0) pe_str (fun _ _ => rfl)) pe_int) (pg_sub (pv 0) pe_str (set_dict B.u1)))
    (pss_cons (ps_set (i := 4) B.nd (by rfl) (.inl rfl) (pe_ix (ix_dct B.u1) (pv 0) pe_str (fun _ _ => rfl)))
    (pss_cons (ps_set (i := 5) B.nd (by rfl) (.inl rfl) (pe_op op_mod (pe_callTy call_int1 (by rfl) m_int boot_int (pa_cons (pe_op op_add (pe_op op_add (pe_op op_mul (pe_ix (ix_dct B.u1) (pv 0) pe_str (fun _ _ => rfl)) pe_int) (pe_op op_mul (pe_op op_mul (pv 4) (pv 4)) pe_int)) (pe_op op_mul pe_int (pv 4))) pa_nil)) pe_int))
    (pss_cons (ps_set (i := 5) B.nd (by rfl) (.inl rfl) (pe_op op_mod (pe_callTy call_int1 (by rfl) m_int boot_int (pa_cons (pe_op op_add (pe_op op_mul (pv 5) pe_int) (pe_op op_fdiv (pv 5) pe_int)) pa_nil)) pe_int))
    (pss_cons (ps_asg (pv 5) (pg_sub (pv 0) pe_str (set_dict B.u1)))
    (pss_one (ps_ret (pe_op op_mod (pe_callTy call_int1 (by rfl) m_int boot_int (pa_cons (pe_op op_fdiv (pv 5) pe_int) pa_nil)) (pv 1))))))))))), stir_spec potOk (by decide) h⟩
/-! _law_pick -/
theorem sc__law_pick : FnScope ["pot", "row"] ["pot", "row"] (defScope st__law_pick) := ⟨rfl, rfl, rfl, by decide +kernel, rfl, by decide +kernel, by decide +kernel⟩
theorem bp__law_pick : BindP "_law_pick" st__law_pick ["pot", "row"] 2 := fun _ _ _ _ _ _ us hl => match us, hl with | [_, _], _ => rfl
def w__law_pick : WS := (sRet (wO oIxA (xO 1) (xD (wCall 2 dsp__law_draw (aCons (xO 0) (aCons (xD (wB1 (oB bLen) (aCons (xO 1) aNil))) aNil))))))
def dsp__law_pick : DSp := dspOf 2 w__law_pick
theorem ok__law_pick {P : Program} {w : World} {K : PySem.W.Frag} {mg : Str → Option Value} {base : Heap} {k : Nat} {f : Addr} {fd : FuncData} (G__law_draw : Cal P w K mg base (k) "_law_draw" st__law_draw ["pot", "many"] dsp__law_draw) (m_len : mg "len" = none)       (F : Fun K "_law_pick" "_law_pick" st__law_pick f fd) : FnG P w K mg base (k + 1) f fd ["pot", "row"] (toSp K mg 2 dsp__law_pick) :=
  fun_does F sc__law_pick fun cdv A outer s H E C => (ss_one (s_ret (d_ixA C.u1 (x_o (pv 1)) (x_d (d_call C G__law_draw (by rfl) bp__law_draw (a_cons (x_o (pv 0)) (a_cons (x_d (d_callB (bd_call bd_len) (by rfl) m_len boot_len (a_cons (x_o (pv 1)) a_nil))) a_nil)))))))
/-! _law_mixed -/
theorem sc__law_mixed : FnScope ["pot", "row", "left", "found", "turn"] ["pot", "row"] (defScope st__law_mixed) := ⟨rfl, rfl, rfl, by decide +kernel, rfl, by decide +kernel, by decide +kernel⟩
theorem bp__law_mixed : BindP "_law_mixed" st__law_mixed ["pot", "row"] 2 := fun _ _ _ _ _ _ us hl => match us, hl with | [_, _], _ => rfl
def w__law_mixed : WS := (sSeq (sPar [2, 3] (nsCons (wB1 (oB bLst) (aCons (xO 1) aNil)) (nsCons (wLst aNil) nsNil))) (sSeq (sFor (iRg1 (aCons (xD (wB1 (oB bLen) (aCons (xO 1) aNil))) aNil)) (gN 4) (sExp (wMt 3 mApp (aCons (xD (wMt 2 mPopAt (aCons (xD (wCall 2 dsp__law_draw (aCons (xO 0) (aCons (xD (wB1 (oB bLen) (aCons (xO 2) aNil))) aNil)))) aNil))) aNil)))) (sRet (wM 3))))
def dsp__law_mixed : DSp := dspOf 5 w__law_mixed
theorem ok__law_mixed {P : Program} {w : World} {K : PySem.W.Frag} {mg : Str → Option Value} {base : Heap} {k : Nat} {f : Addr} {fd : FuncData} (G__law_draw : Cal P w K mg base (k) "_law_draw" st__law_draw ["pot", "many"] dsp__law_draw) (m_len : mg "len" = none) (m_list : mg "list" = none) (m_range : mg "range" = none)       (F : Fun K "_law_mixed" "_law_mixed" st__law_mixed f fd) : FnG P w K mg base (k + 1) f fd ["pot", "row"] (toSp K mg 2 dsp__law_mixed) :=
  fun_does F sc__law_mixed fun cdv A outer s H E C => (ss_cons (s_par (i := 2) (j := 3) C.calm C.nd (n_cons (d_callT (bd_call bd_lst) (by rfl) m_list boot_list (a_cons (x_o (pv 1)) a_nil)) (n_cons (d_lst a_nil) n_nil))) (ss_cons (s_for C.own C.calm (i_rg1 (l := false) (by rfl) m_range (a_cons (x_d (d_callB (bd_call bd_len) (by rfl) m_len boot_len (a_cons (x_o (pv 1)) a_nil))) a_nil)) (g_name (is := [4]) (i := 4) C.nd) (ss_one (s_exp (d_mt m_app PySem.F.slot_list_append PySem.F.type_list_append (pv 3) (a_cons (x_d (d_mt m_popAt PySem.F.slot_list_pop PySem.F.type_list_pop (pv 2) (a_cons (x_d (d_call C G__law_draw (by rfl) bp__law_draw (a_cons (x_o (pv 0)) (a_cons (x_d (d_callB (bd_call bd_len) (by rfl) m_len boot_len (a_cons (x_o (pv 2)) a_nil))) a_nil)))) a_nil))) a_nil))))) (ss_one (s_ret (d_move (pv 3))))))
/-! _law_box -/
theorem sc__law_box : FnScope ["low", "high", "found", "one", "other", "longer", "row", "k"] ["low", "high"] (defScope st__law_box) := ⟨rfl, rfl, rfl, by decide +kernel, rfl, by decide +kernel, by decide +kernel⟩
theorem bp__law_box : BindP "_law_box" st__law_box ["low", "high"] 2 := fun _ _ _ _ _ _ us hl => match us, hl with | [_, _], _ => rfl
def w__law_box : WS := (sSeq (sSet 2 (wLst (aCons (xD (wTup aNil)) aNil))) (sSeq (sFor (iZip (aCons (xD (wV 0)) (aCons (xD (wV 1)) aNil))) (gsN 2 (gCons' (gN 3) (gCons' (gN 4) gNil'))) (sSeq (sSetN 5 (wLst aNil)) (sSeq (sFor (iSq (wV 2)) (gN 6) (sExp (wMt 5 mExt (aCons (xD (wLc (iRg2 (aCons (xO 3) (aCons (xD (wO oCat (xO 4) (xD (wC (.int 1))))) aNil))) [7] (gN 7) wYes (wO oCat (xO 6) (xD (wTup (aCons (xD (wV 7)) aNil)))))) aNil)))) (sSet 2 (wV 5))))) (sRet (wV 2))))
def dsp__law_box : DSp := dspOf 8 w__law_box
theorem ok__law_box {P : Program} {w : World} {K : PySem.W.Frag} {mg : Str → Option Value} {base : Heap} {k : Nat} {f : Addr} {fd : FuncData}  (m_range : mg "range" = none) (m_zip : mg "zip" = none)       (F : Fun K "_law_box" "_law_box" st__law_box f fd) : FnG P w K mg base (k + 1) f fd ["low", "high"] (toSp K mg 2 dsp__law_box) :=
  fun_does F sc__law_box fun cdv A outer s H E C => (ss_cons (s_set (i := 2) C.nd (by rfl) (by first | exact Or.inl rfl | exact Or.inr rfl) (d_lst (a_cons (x_d (d_tup a_nil)) a_nil))) (ss_cons (s_for C.own C.calm (i_zip (by rfl) m_zip (a_cons (x_d (d_var (pv 0))) (a_cons (x_d (d_var (pv 1))) a_nil))) (g_tup (n := 2) C.calm (gs_cons (g_name (is := [3, 4]) (i := 3) C.nd) (gs_cons (g_name (is := [3, 4]) (i := 4) C.nd) gs_nil))) (ss_cons (s_setN (i := 5) C.nd (by rfl) (by first | exact Or.inl rfl | exact Or.inr rfl) (d_lst a_nil)) (ss_cons (s_for C.own C.calm (i_seq (l := false) (d_var (pv 2))) (g_name (is := [6]) (i := 6) C.nd) (ss_one (s_exp (d_mt m_ext PySem.F.slot_list_extend PySem.F.type_list_extend (pv 5) (a_cons (x_d (d_lc C.calm C.nd (own := [("k", 7)]) (blkOk_by (by rfl)) (i_rg2 (l := false) (by rfl) m_range (a_cons (x_o (pv 3)) (a_cons (x_d (d_bin opd_add (x_o (pv 4)) (x_d d_int))) a_nil))) (fun _ _ _ _ _ => (g_name (is := [7]) (i := 7) C.blk.nd)) (fun _ _ _ _ _ => ts_nil) (fun _ _ _ _ _ => (d_bin opd_add (x_o (pv 6)) (x_d (d_tup (a_cons (x_d (d_var (pv 7))) a_nil))))))) a_nil))))) (ss_one (s_set (i := 2) C.nd (by rfl) (by first | exact Or.inl rfl | exact Or.inr rfl) (d_var (pv 5))))))) (ss_one (s_ret (d_var (pv 2))))))
/-! _law_sides -/
theorem sc__law_sides : FnScope ["pot", "most", "many", "sides", "place", "total", "side"] ["pot", "most"] (defScope st__law_sides) := ⟨rfl, rfl, rfl, by decide +kernel, rfl, by decide +kernel, by decide +kernel⟩
theorem bp__law_sides : BindP "_law_sides" st__law_sides ["pot", "most"] 2 := fun _ _ _ _ _ _ us hl => match us, hl with | [_, _], _ => rfl
def w__law_sides : WS := (sSeq (sSet 2 (wCall 2 dsp__law_pick (aCons (xO 0) (aCons (xD (wLst (aCons (xD (wC (.int 1))) (aCons (xD (wC (.int 2))) (aCons (xD (wC (.int 2))) (aCons (xD (wC (.int 2))) (aCons (xD (wC (.int 3))) (aCons (xD (wC (.int 3))) (aCons (xD (wC (.int 4))) aNil))))))))) aNil)))) (sSeq (sSet 3 (wLc (iRg1 (aCons (xO 2) aNil)) [4] (gN 4) wYes (wO oCat (xD (wC (.int 1))) (xD (wCall 2 dsp__law_draw (aCons (xO 0) (aCons (xD (wO oIxA (xD (wLst (aCons (xD (wC (.int 8))) (aCons (xD (wC (.int 5))) (aCons (xD (wC (.int 3))) (aCons (xD (wC (.int 2))) aNil)))))) (xD (wO oSub (xO 2) (xD (wC (.int 1))))))) aNil))))))) (sSeq (sSet 5 (wC (.int 1))) (sSeq (sFor (iSq (wV 3)) (gN 6) (sSet 5 (wO oMul (xO 5) (xO 6)))) (sRet (wIf (wB (wO oLe (xO 5) (xO 1))) (wV 3) (wO oMul (xD (wLst (aCons (xD (wC (.int 2))) aNil))) (xO 2))))))))
def dsp__law_sides : DSp := dspOf 7 w__law_sides
theorem ok__law_sides {P : Program} {w : World} {K : PySem.W.Frag} {mg : Str → Option Value} {base : Heap} {k : Nat} {f : Addr} {fd : FuncData} (G__law_draw : Cal P w K mg base (k) "_law_draw" st__law_draw ["pot", "many"] dsp__law_draw) (G__law_pick : Cal P w K mg base (k) "_law_pick" st__law_pick ["pot", "row"] dsp__law_pick) (m_range : mg "range" = none)       (F : Fun K "_law_sides" "_law_sides" st__law_sides f fd) : FnG P w K mg base (k + 1) f fd ["pot", "most"] (toSp K mg 2 dsp__law_sides) :=
  fun_does F sc__law_sides fun cdv A outer s H E C => (ss_cons (s_set (i := 2) C.nd (by rfl) (by first | exact Or.inl rfl | exact Or.inr rfl) (d_call C G__law_pick (by rfl) bp__law_pick (a_cons (x_o (pv 0)) (a_cons (x_d (d_lst (a_cons (x_d d_int) (a_cons (x_d d_int) (a_cons (x_d d_int) (a_cons (x_d d_int) (a_cons (x_d d_int) (a_cons (x_d d_int) (a_cons (x_d d_int) a_nil))))))))) a_nil)))) (ss_cons (s_setLcF (i := 3) (by rfl) (by rfl) (sw_true rfl rfl (by rfl) (by rfl)) C.calm C.nd (own := [("place", 4)]) (blkOk_by (by rfl)) (i_rg1 (l := false) (by rfl) m_range (a_cons (x_o (pv 2)) a_nil)) (fun _ _ _ _ _ => (g_name (is := [4]) (i := 4) C.blk.nd)) (fun _ _ _ _ _ => ts_nil) (fun _ _ _ _ _ => (d_bin opd_add (x_d d_int) (x_d (d_call C.blk G__law_draw (by rfl) bp__law_draw (a_cons (x_o (pv 0)) (a_cons (x_d (d_ixA C.blk.u1 (x_d (d_lst (a_cons (x_d d_int) (a_cons (x_d d_int) (a_cons (x_d d_int) (a_cons (x_d d_int) a_nil)))))) (x_d (d_bin opd_sub (x_o (pv 2)) (x_d d_int))))) a_nil))))))) (ss_cons (s_set (i := 5) C.nd (by rfl) (by first | exact Or.inl rfl | exact Or.inr rfl) d_int) (ss_cons (s_for C.own C.calm (i_seq (l := false) (d_var (pv 3))) (g_name (is := [6]) (i := 6) C.nd) (ss_one (s_set (i := 5) C.nd (by rfl) (by first | exact Or.inl rfl | exact Or.inr rfl) (d_bin opd_mul (x_o (pv 5)) (x_o (pv 6)))))) (ss_one (s_ret (d_if (t_cmp (opd_leD C.u64) (x_o (pv 5)) (x_o (pv 1))) (d_var (pv 3)) (d_bin opd_mul (x_d (d_lst (a_cons (x_d d_int) a_nil))) (x_o (pv 2))))))))))
/-! _law_bend -/
theorem sc__law_bend : FnScope ["pot", "depth"] ["pot", "depth"] (defScope st__law_bend) := ⟨rfl, rfl, rfl, by decide +kernel, rfl, by decide +kernel, by decide +kernel⟩
theorem bp__law_bend : BindP "_law_bend" st__law_bend ["pot", "depth"] 2 := fun _ _ _ _ _ _ us hl => match us, hl with | [_, _], _ => rfl
def w__law_bend : WS := (sRet (wTup (aCons (xD (wO oSub (xD (wCall 2 dsp__law_draw (aCons (xO 0) (aCons (xD (wC (.int 5))) aNil)))) (xD (wC (.int 1))))) (aCons (xD (wCall 2 dsp__law_draw (aCons (xO 0) (aCons (xD (wV 1)) aNil)))) (aCons (xD (wCall 2 dsp__law_draw (aCons (xO 0) (aCons (xD (wV 1)) aNil)))) (aCons (xD (wCall 2 dsp__law_draw (aCons (xO 0) (aCons (xD (wC (.int 3))) aNil)))) aNil))))))
def dsp__law_bend : DSp := dspOf 2 w__law_bend
theorem ok__law_bend {P : Program} {w : World} {K : PySem.W.Frag} {mg : Str → Option Value} {base : Heap} {k : Nat} {f : Addr} {fd : FuncData} (G__law_draw : Cal P w K mg base (k) "_law_draw" st__law_draw ["pot", "many"] dsp__law_draw)        (F : Fun K "_law_bend" "_law_bend" st__law_bend f fd) : FnG P w K mg base (k + 1) f fd ["pot", "depth"] (toSp K mg 2 dsp__law_bend) :=
  fun_does F sc__law_bend fun cdv A outer s H E C => (ss_one (s_ret (d_tup (a_cons (x_d (d_bin opd_sub (x_d (d_call C G__law_draw (by rfl) bp__law_draw (a_cons (x_o (pv 0)) (a_cons (x_d d_int) a_nil)))) (x_d d_int))) (a_cons (x_d (d_call C G__law_draw (by rfl) bp__law_draw (a_cons (x_o (pv 0)) (a_cons (x_d (d_var (pv 1))) a_nil)))) (a_cons (x_d (d_call C G__law_draw (by rfl) bp__law_draw (a_cons (x_o (pv 0)) (a_cons (x_d (d_var (pv 1))) a_nil)))) (a_cons (x_d (d_call C G__law_draw (by rfl) bp__law_draw (a_cons (x_o (pv 0)) (a_cons (x_d d_int) a_nil)))) a_nil)))))))
/-! _law_bent -/
theorem sc__law_bent : FnScope ["bend", "x", "middle", "down", "up", "curve"] ["bend", "x"] (defScope st__law_bent) := ⟨rfl, rfl, rfl, by decide +kernel, rfl, by decide +kernel, by decide +kernel⟩
theorem bp__law_bent : BindP "_law_bent" st__law_bent ["bend", "x"] 2 := fun _ _ _ _ _ _ us hl => match us, hl with | [_, _], _ => rfl
def w__law_bent : WS := (sSeq (sAsg (wV 0) (gsN 4 (gCons' (gN 2) (gCons' (gN 3) (gCons' (gN 4) (gCons' (gN 5) gNil')))))) (sRet (wO oCat (xD (wO oMul (xD (wO oMul (xO 5) (xD (wO oSub (xO 1) (xO 2))))) (xD (wO oSub (xO 1) (xO 2))))) (xD (wIf (wB (wO oGt (xO 1) (xO 2))) (wO oMul (xO 4) (xD (wO oSub (xO 1) (xO 2)))) (wO oMul (xO 3) (xD (wO oSub (xO 2) (xO 1)))))))))
def dsp__law_bent : DSp := dspOf 6 w__law_bent
theorem ok__law_bent {P : Program} {w : World} {K : PySem.W.Frag} {mg : Str → Option Value} {base : Heap} {k : Nat} {f : Addr} {fd : FuncData}         (F : Fun K "_law_bent" "_law_bent" st__law_bent f fd) : FnG P w K mg base (k + 1) f fd ["bend", "x"] (toSp K mg 2 dsp__law_bent) :=
  fun_does F sc__law_bent fun cdv A outer s H E C => (ss_cons (s_asg (d_var (pv 0)) (g_tup (n := 4) C.calm (gs_cons (g_name (is := [2, 3, 4, 5]) (i := 2) C.nd) (gs_cons (g_name (is := [2, 3, 4, 5]) (i := 3) C.nd) (gs_cons (g_name (is := [2, 3, 4, 5]) (i := 4) C.nd) (gs_cons (g_name (is := [2, 3, 4, 5]) (i := 5) C.nd) gs_nil)))))) (ss_one (s_ret (d_bin opd_add (x_d (d_bin opd_mul (x_d (d_bin opd_mul (x_o (pv 5)) (x_d (d_bin opd_sub (x_o (pv 1)) (x_o (pv 2)))))) (x_d (d_bin opd_sub (x_o (pv 1)) (x_o (pv 2)))))) (x_d (d_if (t_cmp (opd_gtD C.u64) (x_o (pv 1)) (x_o (pv 2))) (d_bin opd_mul (x_o (pv 4)) (x_d (d_bin opd_sub (x_o (pv 1)) (x_o (pv 2))))) (d_bin opd_mul (x_o (pv 3)) (x_d (d_bin opd_sub (x_o (pv 2)) (x_o (pv 1)))))))))))
/-! _law_shift -/
theorem sc__law_shift : FnScope ["pot", "hill", "many", "points", "point", "worth", "far", "step", "place", "low", "high", "own", "x", "y"] ["pot", "hill"] (defScope st__law_shift) := ⟨rfl, rfl, rfl, by decide +kernel, rfl, by decide +kernel, by decide +kernel⟩
theorem bp__law_shift : BindP "_law_shift" st__law_shift ["pot", "hill"] 2 := fun _ _ _ _ _ _ us hl => match us, hl with | [_, _], _ => rfl
def w__law_shift : WS := (sSeq (sSet 2 (wB1 (oB bLen) (aCons (xD (wO oIxA (xD (wO oIxA (xO 1) (xD (wC (.int 0))))) (xD (wC (.int 0))))) aNil))) (sSeq (sSet 3 (wLc (iSq (wV 1)) [4, 5] (gsN 2 (gCons' (gN 4) (gCons' (gN 5) gNil'))) wYes (wV 4))) (sSeq (sSet 6 (wCall 2 dsp__law_draw (aCons (xO 0) (aCons (xD (wC (.int 4))) aNil)))) (sSeq (sSetN 7 (wLst aNil)) (sSeq (sFor (iRg1 (aCons (xO 2) aNil)) (gN 8) (sSeq (sPar [9, 10] (nsCons (wF (wB1 (oB bMn1) (aCons (xD (wLc (iSq (wV 3)) [11] (gN 11) wYes (wO oIxA (xO 11) (xO 8)))) aNil))) (nsCons (wF (wB1 (oB bMx1) (aCons (xD (wLc (iSq (wV 3)) [11] (gN 11) wYes (wO oIxA (xO 11) (xO 8)))) aNil))) nsNil))) (sExp (wMt 7 mApp (aCons (xD (wCall 2 dsp__law_pick (aCons (xO 0) (aCons (xD (wIf (wB (wO (oEq id) (xO 6) (xD (wC (.int 0))))) (wLst (aCons (xD (wC (.int 0))) (aCons (xD (wC (.int 0))) (aCons (xD (wO oSub (xD (wU oNeg (xD (wC (.int 20))))) (xO 9))) (aCons (xD (wO oSub (xD (wC (.int 20))) (xO 10))) aNil))))) (wLst (aCons (xD (wC (.int 0))) (aCons (xD (wC (.int 1))) (aCons (xD (wU oNeg (xD (wC (.int 2))))) (aCons (xD (wU oNeg (xO 9))) aNil))))))) aNil)))) aNil))))) (sRet (wB1 (oB bTup) (aCons (xD (wLc (iSq (wV 1)) [4, 5] (gsN 2 (gCons' (gN 4) (gCons' (gN 5) gNil'))) wYes (wTup (aCons (xD (wB1 (oB bTup) (aCons (xD (wLc (iZip (aCons (xD (wV 4)) (aCons (xD (wV 7)) aNil))) [12, 13] (gsN 2 (gCons' (gN 12) (gCons' (gN 13) gNil'))) wYes (wO oCat (xO 12) (xO 13)))) aNil))) (aCons (xD (wV 5)) aNil))))) aNil))))))))
def dsp__law_shift : DSp := dspOf 14 w__law_shift
theorem ok__law_shift {P : Program} {w : World} {K : PySem.W.Frag} {mg : Str → Option Value} {base : Heap} {k : Nat} {f : Addr} {fd : FuncData} (G__law_draw : Cal P w K mg base (k) "_law_draw" st__law_draw ["pot", "many"] dsp__law_draw) (G__law_pick : Cal P w K mg base (k) "_law_pick" st__law_pick ["pot", "row"] dsp__law_pick) (m_len : mg "len" = none) (m_max : mg "max" = none) (m_min : mg "min" = none) (m_range : mg "range" = none) (m_tuple : mg "tuple" = none) (m_zip : mg "zip" = none)       (F : Fun K "_law_shift" "_law_shift" st__law_shift f fd) : FnG P w K mg base (k + 1) f fd ["pot", "hill"] (toSp K mg 2 dsp__law_shift) :=
  fun_does F sc__law_shift fun cdv A outer s H E C => (ss_cons (s_set (i := 2) C.nd (by rfl) (by first | exact Or.inl rfl | exact Or.inr rfl) (d_callB (bd_call bd_len) (by rfl) m_len boot_len (a_cons (x_d (d_ixA C.u1 (x_d (d_ixA C.u1 (x_o (pv 1)) (x_d d_int))) (x_d d_int))) a_nil))) (ss_cons (s_setLcF (i := 3) (by rfl) (by rfl) (sw_true rfl rfl (by rfl) (by rfl)) C.calm C.nd (own := [("point", 4), ("worth", 5)]) (blkOk_by (by rfl)) (i_seq (l := false) (d_var (pv 1))) (fun _ _ _ _ _ => (g_tup (n := 2) C.blk.calm (gs_cons (g_name (is := [4, 5]) (i := 4) C.blk.nd) (gs_cons (g_name (is := [4, 5]) (i := 5) C.blk.nd) gs_nil)))) (fun _ _ _ _ _ => ts_nil) (fun _ _ _ _ _ => (d_var (pv 4)))) (ss_cons (s_set (i := 6) C.nd (by rfl) (by first | exact Or.inl rfl | exact Or.inr rfl) (d_call C G__law_draw (by rfl) bp__law_draw (a_cons (x_o (pv 0)) (a_cons (x_d d_int) a_nil)))) (ss_cons (s_setN (i := 7) C.nd (by rfl) (by first | exact Or.inl rfl | exact Or.inr rfl) (d_lst a_nil)) (ss_cons (s_for C.own C.calm (i_rg1 (l := false) (by rfl) m_range (a_cons (x_o (pv 2)) a_nil)) (g_name (is := [8]) (i := 8) C.nd) (ss_cons (s_par (i := 9) (j := 10) C.calm C.nd (n_cons (d_fz (d_callB (bd_call (bd_min1 C.calm C.u60)) (by rfl) m_min boot_min (a_cons (x_d (d_lc C.calm C.nd (own := [("own", 11)]) (blkOk_by (by rfl)) (i_seq (l := false) (d_var (pv 3))) (fun _ _ _ _ _ => (g_name (is := [11]) (i := 11) C.blk.nd)) (fun _ _ _ _ _ => ts_nil) (fun _ _ _ _ _ => (d_ixA C.blk.u1 (x_o (pv 11)) (x_o (pv 8)))))) a_nil))) (n_cons (d_fz (d_callB (bd_call (bd_max1 C.calm C.u60)) (by rfl) m_max boot_max (a_cons (x_d (d_lc C.calm C.nd (own := [("own", 11)]) (blkOk_by (by rfl)) (i_seq (l := false) (d_var (pv 3))) (fun _ _ _ _ _ => (g_name (is := [11]) (i := 11) C.blk.nd)) (fun _ _ _ _ _ => ts_nil) (fun _ _ _ _ _ => (d_ixA C.blk.u1 (x_o (pv 11)) (x_o (pv 8)))))) a_nil))) n_nil))) (ss_one (s_exp (d_mt m_app PySem.F.slot_list_append PySem.F.type_list_append (pv 7) (a_cons (x_d (d_call C G__law_pick (by rfl) bp__law_pick (a_cons (x_o (pv 0)) (a_cons (x_d (d_if (t_cmp (opd_eq C.u64) (x_o (pv 6)) (x_d d_int)) (d_lst (a_cons (x_d d_int) (a_cons (x_d d_int) (a_cons (x_d (d_bin opd_sub (x_d (d_un und_neg (x_d d_int))) (x_o (pv 9)))) (a_cons (x_d (d_bin opd_sub (x_d d_int) (x_o (pv 10)))) a_nil))))) (d_lst (a_cons (x_d d_int) (a_cons (x_d d_int) (a_cons (x_d (d_un und_neg (x_d d_int))) (a_cons (x_d (d_un und_neg (x_o (pv 9)))) a_nil))))))) a_nil)))) a_nil)))))) (ss_one (s_ret (d_callT (bd_call bd_tup) (by rfl) m_tuple boot_tuple (a_cons (x_d (d_lc C.calm C.nd (own := [("point", 4), ("worth", 5)]) (blkOk_by (by rfl)) (i_seq (l := false) (d_var (pv 1))) (fun _ _ _ _ _ => (g_tup (n := 2) C.blk.calm (gs_cons (g_name (is := [4, 5]) (i := 4) C.blk.nd) (gs_cons (g_name (is := [4, 5]) (i := 5) C.blk.nd) gs_nil)))) (fun _ _ _ _ _ => ts_nil) (fun _ _ _ _ _ => (d_tup (a_cons (x_d (d_callT (bd_call bd_tup) (by rfl) m_tuple boot_tuple (a_cons (x_d (d_lc C.blk.calm C.blk.nd (own := [("x", 12), ("y", 13)]) (blkOk_by (by rfl)) (i_zip (by rfl) m_zip (a_cons (x_d (d_var (pv 4))) (a_cons (x_d (d_var (pv 7))) a_nil))) (fun _ _ _ _ _ => (g_tup (n := 2) C.blk.blk.calm (gs_cons (g_name (is := [12, 13]) (i := 12) C.blk.blk.nd) (gs_cons (g_name (is := [12, 13]) (i := 13) C.blk.blk.nd) gs_nil)))) (fun _ _ _ _ _ => ts_nil) (fun _ _ _ _ _ => (d_bin opd_add (x_o (pv 12)) (x_o (pv 13)))))) a_nil))) (a_cons (x_d (d_var (pv 5))) a_nil)))))) a_nil)))))))))
/-! _law_l_hill -/
theorem sc__law_l_hill : FnScope ["pot", "most", "sides", "many", "singles", "place", "pairs", "found", "j", "i", "point", "side", "worth", "bend", "x"] ["pot", "most"] (defScope st__law_l_hill) := ⟨rfl, rfl, rfl, by decide +kernel, rfl, by decide +kernel, by decide +kernel⟩
theorem bp__law_l_hill : BindP "_law_l_hill" st__law_l_hill ["pot", "most"] 2 := fun _ _ _ _ _ _ us hl => match us, hl with | [_, _], _ => rfl
def w__law_l_hill : WS := (sSeq (sSet 2 (wCall 2 dsp__law_sides (aCons (xO 0) (aCons (xD (wV 1)) aNil)))) (sSeq (sSet 3 (wB1 (oB bLen) (aCons (xO 2) aNil))) (sSeq (sSet 4 (wLc (iRg1 (aCons (xO 3) aNil)) [5] (gN 5) wYes (wCall 2 dsp__law_bend (aCons (xO 0) (aCons (xD (wC (.int 4))) aNil))))) (sSeq (sPar [6, 7] (nsCons (wLst aNil) (nsCons (wLst aNil) nsNil))) (sSeq (sFor (iRg1 (aCons (xO 3) aNil)) (gN 8) (sExp (wMt 6 mExt (aCons (xD (wLc (iRg1 (aCons (xO 8) aNil)) [9] (gN 9) (wB (wO oGt (xD (wCall 2 dsp__law_draw (aCons (xO 0) (aCons (xD (wC (.int 3))) aNil)))) (xD (wC (.int 0))))) (wTup (aCons (xD (wV 9)) (aCons (xD (wV 8)) (aCons (xD (wCall 2 dsp__law_bend (aCons (xO 0) (aCons (xD (wC (.int 3))) aNil)))) aNil)))))) aNil)))) (sSeq (sFor (iSq (wCall 2 dsp__law_box (aCons (xD (wO oMul (xD (wLst (aCons (xD (wC (.int 0))) aNil))) (xO 3))) (aCons (xD (wLc (iSq (wV 2)) [11] (gN 11) wYes (wO oSub (xO 11) (xD (wC (.int 1)))))) aNil)))) (gN 10) (sSeq (sSet 12 (wB1 (oB bSum) (aCons (xD (wLc (iZip (aCons (xD (wV 4)) (aCons (xD (wV 10)) aNil))) [13, 14] (gsN 2 (gCons' (gN 13) (gCons' (gN 14) gNil'))) wYes (wCall 2 dsp__law_bent (aCons (xD (wV 13)) (aCons (xD (wV 14)) aNil))))) aNil))) (sExp (wMt 7 mApp (aCons (xD (wTup (aCons (xD (wV 10)) (aCons (xD (wO oCat (xO 12) (xD (wB1 (oB bSum) (aCons (xD (wLc (iSq (wV 6)) [9, 8, 13] (gsN 3 (gCons' (gN 9) (gCons' (gN 8) (gCons' (gN 13) gNil')))) wYes (wCall 2 dsp__law_bent (aCons (xD (wV 13)) (aCons (xD (wO oSub (xD (wO oIxA (xO 10) (xO 9))) (xD (wO oIxA (xO 10) (xO 8))))) aNil))))) aNil))))) aNil)))) aNil))))) (sRet (wCall 2 dsp__law_shift (aCons (xO 0) (aCons (xD (wV 7)) aNil))))))))))
def dsp__law_l_hill : DSp := dspOf 15 w__law_l_hill
theorem ok__law_l_hill {P : Program} {w : World} {K : PySem.W.Frag} {mg : Str → Option Value} {base : Heap} {k : Nat} {f : Addr} {fd : FuncData} (G__law_draw : Cal P w K mg base (k) "_law_draw" st__law_draw ["pot", "many"] dsp__law_draw) (G__law_box : Cal P w K mg base (k) "_law_box" st__law_box ["low", "high"] dsp__law_box) (G__law_sides : Cal P w K mg base (k) "_law_sides" st__law_sides ["pot", "most"] dsp__law_sides) (G__law_bend : Cal P w K mg base (k) "_law_bend" st__law_bend ["pot", "depth"] dsp__law_bend) (G__law_bent : Cal P w K mg base (k) "_law_bent" st__law_bent ["bend", "x"] dsp__law_bent) (G__law_shift : Cal P w K mg base (k) "_law_shift" st__law_shift ["pot", "hill"] dsp__law_shift) (m_len : mg "len" = none) (m_range : mg "range" = none) (m_sum : mg "sum" = none) (m_zip : mg "zip" = none)       (F : Fun K "_law_l_hill" "_law_l_hill" st__law_l_hill f fd) : FnG P w K mg base (k + 1) f fd ["pot", "most"] (toSp K mg 2 dsp__law_l_hill) :=
  fun_does F sc__law_l_hill fun cdv A outer s H E C => (ss_cons (s_set (i := 2) C.nd (by rfl) (by first | exact Or.inl rfl | exact Or.inr rfl) (d_call C G__law_sides (by rfl) bp__law_sides (a_cons (x_o (pv 0)) (a_cons (x_d (d_var (pv 1))) a_nil)))) (ss_cons (s_set (i := 3) C.nd (by rfl) (by first | exact Or.inl rfl | exact Or.inr rfl) (d_callB (bd_call bd_len) (by rfl) m_len boot_len (a_cons (x_o (pv 2)) a_nil))) (ss_cons (s_setLcF (i := 4) (by rfl) (by rfl) (sw_true rfl rfl (by rfl) (by rfl)) C.calm C.nd (own := [("place", 5)]) (blkOk_by (by rfl)) (i_rg1 (l := false) (by rfl) m_range (a_cons (x_o (pv 3)) a_nil)) (fun _ _ _ _ _ => (g_name (is := [5]) (i := 5) C.blk.nd)) (fun _ _ _ _ _ => ts_nil) (fun _ _ _ _ _ => (d_call C.blk G__law_bend (by rfl) bp__law_bend (a_cons (x_o (pv 0)) (a_cons (x_d d_int) a_nil))))) (ss_cons (s_par (i := 6) (j := 7) C.calm C.nd (n_cons (d_lst a_nil) (n_cons (d_lst a_nil) n_nil))) (ss_cons (s_for C.own C.calm (i_rg1 (l := false) (by rfl) m_range (a_cons (x_o (pv 3)) a_nil)) (g_name (is := [8]) (i := 8) C.nd) (ss_one (s_exp (d_mt m_ext PySem.F.slot_list_extend PySem.F.type_list_extend (pv 6) (a_cons (x_d (d_lc C.calm C.nd (own := [("i", 9)]) (blkOk_by (by rfl)) (i_rg1 (l := false) (by rfl) m_range (a_cons (x_o (pv 8)) a_nil)) (fun _ _ _ _ _ => (g_name (is := [9]) (i := 9) C.blk.nd)) (fun _ _ _ _ _ => (ts_one (t_cmp (opd_gtD C.blk.u64) (x_d (d_call C.blk G__law_draw (by rfl) bp__law_draw (a_cons (x_o (pv 0)) (a_cons (x_d d_int) a_nil)))) (x_d d_int)))) (fun _ _ _ _ _ => (d_tup (a_cons (x_d (d_var (pv 9))) (a_cons (x_d (d_var (pv 8))) (a_cons (x_d (d_call C.blk G__law_bend (by rfl) bp__law_bend (a_cons (x_o (pv 0)) (a_cons (x_d d_int) a_nil)))) a_nil))))))) a_nil))))) (ss_cons (s_for C.own C.calm (i_seq (l := false) (d_call C G__law_box (by rfl) bp__law_box (a_cons (x_d (d_bin opd_mul (x_d (d_lst (a_cons (x_d d_int) a_nil))) (x_o (pv 3)))) (a_cons (x_d (d_lc C.calm C.nd (own := [("side", 11)]) (blkOk_by (by rfl)) (i_seq (l := false) (d_var (pv 2))) (fun _ _ _ _ _ => (g_name (is := [11]) (i := 11) C.blk.nd)) (fun _ _ _ _ _ => ts_nil) (fun _ _ _ _ _ => (d_bin opd_sub (x_o (pv 11)) (x_d d_int))))) a_nil)))) (g_name (is := [10]) (i := 10) C.nd) (ss_cons (s_set (i := 12) C.nd (by rfl) (by first | exact Or.inl rfl | exact Or.inr rfl) (d_callB (bd_call (bd_sum C.calm)) (by rfl) m_sum boot_sum (a_cons (x_d (d_lc C.calm C.nd (own := [("bend", 13), ("x", 14)]) (blkOk_by (by rfl)) (i_zip (by rfl) m_zip (a_cons (x_d (d_var (pv 4))) (a_cons (x_d (d_var (pv 10))) a_nil))) (fun _ _ _ _ _ => (g_tup (n := 2) C.blk.calm (gs_cons (g_name (is := [13, 14]) (i := 13) C.blk.nd) (gs_cons (g_name (is := [13, 14]) (i := 14) C.blk.nd) gs_nil)))) (fun _ _ _ _ _ => ts_nil) (fun _ _ _ _ _ => (d_call C.blk G__law_bent (by rfl) bp__law_bent (a_cons (x_d (d_var (pv 13))) (a_cons (x_d (d_var (pv 14))) a_nil)))))) a_nil))) (ss_one (s_exp (d_mt m_app PySem.F.slot_list_append PySem.F.type_list_append (pv 7) (a_cons (x_d (d_tup (a_cons (x_d (d_var (pv 10))) (a_cons (x_d (d_bin opd_add (x_o (pv 12)) (x_d (d_callB (bd_call (bd_sum C.calm)) (by rfl) m_sum boot_sum (a_cons (x_d (d_lc C.calm C.nd (own := [("i", 9), ("j", 8), ("bend", 13)]) (blkOk_by (by rfl)) (i_seq (l := false) (d_var (pv 6))) (fun _ _ _ _ _ => (g_tup (n := 3) C.blk.calm (gs_cons (g_name (is := [9, 8, 13]) (i := 9) C.blk.nd) (gs_cons (g_name (is := [9, 8, 13]) (i := 8) C.blk.nd) (gs_cons (g_name (is := [9, 8, 13]) (i := 13) C.blk.nd) gs_nil))))) (fun _ _ _ _ _ => ts_nil) (fun _ _ _ _ _ => (d_call C.blk G__law_bent (by rfl) bp__law_bent (a_cons (x_d (d_var (pv 13))) (a_cons (x_d (d_bin opd_sub (x_d (d_ixA C.blk.u1 (x_o (pv 10)) (x_o (pv 9)))) (x_d (d_ixA C.blk.u1 (x_o (pv 10)) (x_o (pv 8)))))) a_nil)))))) a_nil))))) a_nil)))) a_nil)))))) (ss_one (s_ret (d_call C G__law_shift (by rfl) bp__law_shift (a_cons (x_o (pv 0)) (a_cons (x_d (d_var (pv 7))) a_nil)))))))))))
/-! _law_m_hill -/
theorem sc__law_m_hill : FnScope ["pot", "most", "sides", "many", "order", "singles", "place", "lots", "size", "found", "total", "side", "low", "high", "point", "worth", "bend", "x", "k", "lot"] ["pot", "most"] (defScope st__law_m_hill) := ⟨rfl, rfl, rfl, by decide +kernel, rfl, by decide +kernel, by decide +kernel⟩
theorem bp__law_m_hill : BindP "_law_m_hill" st__law_m_hill ["pot", "most"] 2 := fun _ _ _ _ _ _ us hl => match us, hl with | [_, _], _ => rfl
def w__law_m_hill : WS := (sSeq (sSet 2 (wCall 2 dsp__law_sides (aCons (xO 0) (aCons (xD (wV 1)) aNil)))) (sSeq (sSet 3 (wB1 (oB bLen) (aCons (xO 2) aNil))) (sSeq (sSet 4 (wCall 2 dsp__law_mixed (aCons (xO 0) (aCons (xD (wLrg (r1 (xO 3)))) aNil)))) (sSeq (sSet 5 (wLc (iRg1 (aCons (xO 3) aNil)) [6] (gN 6) wYes (wCall 2 dsp__law_bend (aCons (xO 0) (aCons (xD (wC (.int 4))) aNil))))) (sSeq (sSet 7 (wLc (iRg2 (aCons (xD (wC (.int 2))) (aCons (xD (wO oCat (xO 3) (xD (wC (.int 1))))) aNil))) [8] (gN 8) (wB (wO oGt (xD (wCall 2 dsp__law_draw (aCons (xO 0) (aCons (xD (wC (.int 3))) aNil)))) (xD (wC (.int 0))))) (wTup (aCons (xD (wSl (xO 4) pNo (pSo (xO 8)))) (aCons (xD (wCall 2 dsp__law_bend (aCons (xO 0) (aCons (xD (wC (.int 3))) aNil)))) aNil))))) (sSeq (sPar [9, 10] (nsCons (wLst aNil) (nsCons (wF (wB1 (oB bSum) (aCons (xD (wLc (iSq (wV 2)) [11] (gN 11) wYes (wO oSub (xO 11) (xD (wC (.int 1)))))) aNil))) nsNil))) (sSeq (sSet 12 (wCall 2 dsp__law_pick (aCons (xO 0) (aCons (xD (wLst (aCons (xD (wC (.int 0))) (aCons (xD (wC (.int 0))) (aCons (xD (wIf (wB (wO oGt (xO 10) (xD (wC (.int 0))))) (wC (.int 1)) (wC (.int 0)))) aNil))))) aNil)))) (sSeq (sSet 13 (wCall 2 dsp__law_pick (aCons (xO 0) (aCons (xD (wLst (aCons (xD (wV 10)) (aCons (xD (wV 10)) (aCons (xD (wB1 (oB bMx2) (aCons (xO 12) (aCons (xD (wO oSub (xO 10) (xD (wC (.int 1))))) aNil)))) (aCons (xD (wB1 (oB bMx2) (aCons (xO 12) (aCons (xD (wC (.int 1))) aNil)))) aNil)))))) aNil)))) (sSeq (sFor (iSq (wCall 2 dsp__law_box (aCons (xD (wO oMul (xD (wLst (aCons (xD (wC (.int 0))) aNil))) (xO 3))) (aCons (xD (wLc (iSq (wV 2)) [11] (gN 11) wYes (wO oSub (xO 11) (xD (wC (.int 1)))))) aNil)))) (gN 14) (sIf (wB (wCh oLe oLe (xO 12) (xD (wB1 (oB bSum) (aCons (xO 14) aNil))) (xO 13))) (sSeq (sSet 15 (wB1 (oB bSum) (aCons (xD (wLc (iZip (aCons (xD (wV 5)) (aCons (xD (wV 14)) aNil))) [16, 17] (gsN 2 (gCons' (gN 16) (gCons' (gN 17) gNil'))) wYes (wCall 2 dsp__law_bent (aCons (xD (wV 16)) (aCons (xD (wV 17)) aNil))))) aNil))) (sExp (wMt 9 mApp (aCons (xD (wTup (aCons (xD (wV 14)) (aCons (xD (wO oCat (xO 15) (xD (wB1 (oB bSum) (aCons (xD (wLc (iSq (wV 7)) [19, 16] (gsN 2 (gCons' (gN 19) (gCons' (gN 16) gNil'))) wYes (wCall 2 dsp__law_bent (aCons (xD (wV 16)) (aCons (xD (wB1 (oB bSum) (aCons (xD (wLc (iSq (wV 19)) [18] (gN 18) wYes (wO oIxA (xO 14) (xO 18)))) aNil))) aNil))))) aNil))))) aNil)))) aNil)))) sNil)) (sRet (wCall 2 dsp__law_shift (aCons (xO 0) (aCons (xD (wV 9)) aNil)))))))))))))
def dsp__law_m_hill : DSp := dspOf 20 w__law_m_hill
theorem ok__law_m_hill {P : Program} {w : World} {K : PySem.W.Frag} {mg : Str → Option Value} {base : Heap} {k : Nat} {f : Addr} {fd : FuncData} (G__law_draw : Cal P w K mg base (k) "_law_draw" st__law_draw ["pot", "many"] dsp__law_draw) (G__law_pick : Cal P w K mg base (k) "_law_pick" st__law_pick ["pot", "row"] dsp__law_pick) (G__law_mixed : Cal P w K mg base (k) "_law_mixed" st__law_mixed ["pot", "row"] dsp__law_mixed) (G__law_box : Cal P w K mg base (k) "_law_box" st__law_box ["low", "high"] dsp__law_box) (G__law_sides : Cal P w K mg base (k) "_law_sides" st__law_sides ["pot", "most"] dsp__law_sides) (G__law_bend : Cal P w K mg base (k) "_law_bend" st__law_bend ["pot", "depth"] dsp__law_bend) (G__law_bent : Cal P w K mg base (k) "_law_bent" st__law_bent ["bend", "x"] dsp__law_bent) (G__law_shift : Cal P w K mg base (k) "_law_shift" st__law_shift ["pot", "hill"] dsp__law_shift) (m_len : mg "len" = none) (m_list : mg "list" = none) (m_max : mg "max" = none) (m_range : mg "range" = none) (m_sum : mg "sum" = none) (m_zip : mg "zip" = none)       (F : Fun K "_law_m_hill" "_law_m_hill" st__law_m_hill f fd) : FnG P w K mg base (k + 1) f fd ["pot", "most"] (toSp K mg 2 dsp__law_m_hill) :=
  fun_does F sc__law_m_hill fun cdv A outer s H E C => (ss_cons (s_set (i := 2) C.nd (by rfl) (by first | exact Or.inl rfl | exact Or.inr rfl) (d_call C G__law_sides (by rfl) bp__law_sides (a_cons (x_o (pv 0)) (a_cons (x_d (d_var (pv 1))) a_nil)))) (ss_cons (s_set (i := 3) C.nd (by rfl) (by first | exact Or.inl rfl | exact Or.inr rfl) (d_callB (bd_call bd_len) (by rfl) m_len boot_len (a_cons (x_o (pv 2)) a_nil))) (ss_cons (s_set (i := 4) C.nd (by rfl) (by first | exact Or.inl rfl | exact Or.inr rfl) (d_call C G__law_mixed (by rfl) bp__law_mixed (a_cons (x_o (pv 0)) (a_cons (x_d (d_lrg C.calm (by rfl) m_list (g_r1 (by rfl) m_range (x_o (pv 3))))) a_nil)))) (ss_cons (s_setLcF (i := 5) (by rfl) (by rfl) (sw_true rfl rfl (by rfl) (by rfl)) C.calm C.nd (own := [("place", 6)]) (blkOk_by (by rfl)) (i_rg1 (l := false) (by rfl) m_range (a_cons (x_o (pv 3)) a_nil)) (fun _ _ _ _ _ => (g_name (is := [6]) (i := 6) C.blk.nd)) (fun _ _ _ _ _ => ts_nil) (fun _ _ _ _ _ => (d_call C.blk G__law_bend (by rfl) bp__law_bend (a_cons (x_o (pv 0)) (a_cons (x_d d_int) a_nil))))) (ss_cons (s_setLcF (i := 7) (by rfl) (by rfl) (sw_true rfl rfl (by rfl) (by rfl)) C.calm C.nd (own := [("size", 8)]) (blkOk_by (by rfl)) (i_rg2 (l := false) (by rfl) m_range (a_cons (x_d d_int) (a_cons (x_d (d_bin opd_add (x_o (pv 3)) (x_d d_int))) a_nil))) (fun _ _ _ _ _ => (g_name (is := [8]) (i := 8) C.blk.nd)) (fun _ _ _ _ _ => (ts_one (t_cmp (opd_gtD C.blk.u64) (x_d (d_call C.blk G__law_draw (by rfl) bp__law_draw (a_cons (x_o (pv 0)) (a_cons (x_d d_int) a_nil)))) (x_d d_int)))) (fun _ _ _ _ _ => (d_tup (a_cons (x_d (d_sl (x_o (pv 4)) o_no (o_so (x_o (pv 8))))) (a_cons (x_d (d_call C.blk G__law_bend (by rfl) bp__law_bend (a_cons (x_o (pv 0)) (a_cons (x_d d_int) a_nil)))) a_nil))))) (ss_cons (s_par (i := 9) (j := 10) C.calm C.nd (n_cons (d_lst a_nil) (n_cons (d_fz (d_callB (bd_call (bd_sum C.calm)) (by rfl) m_sum boot_sum (a_cons (x_d (d_lc C.calm C.nd (own := [("side", 11)]) (blkOk_by (by rfl)) (i_seq (l := false) (d_var (pv 2))) (fun _ _ _ _ _ => (g_name (is := [11]) (i := 11) C.blk.nd)) (fun _ _ _ _ _ => ts_nil) (fun _ _ _ _ _ => (d_bin opd_sub (x_o (pv 11)) (x_d d_int))))) a_nil))) n_nil))) (ss_cons (s_set (i := 12) C.nd (by rfl) (by first | exact Or.inl rfl | exact Or.inr rfl) (d_call C G__law_pick (by rfl) bp__law_pick (a_cons (x_o (pv 0)) (a_cons (x_d (d_lst (a_cons (x_d d_int) (a_cons (x_d d_int) (a_cons (x_d (d_if (t_cmp (opd_gtD C.u64) (x_o (pv 10)) (x_d d_int)) d_int d_int)) a_nil))))) a_nil)))) (ss_cons (s_set (i := 13) C.nd (by rfl) (by first | exact Or.inl rfl | exact Or.inr rfl) (d_call C G__law_pick (by rfl) bp__law_pick (a_cons (x_o (pv 0)) (a_cons (x_d (d_lst (a_cons (x_d (d_var (pv 10))) (a_cons (x_d (d_var (pv 10))) (a_cons (x_d (d_callB (bd_call (bd_max2 C.calm)) (by rfl) m_max boot_max (a_cons (x_o (pv 12)) (a_cons (x_d (d_bin opd_sub (x_o (pv 10)) (x_d d_int))) a_nil)))) (a_cons (x_d (d_callB (bd_call (bd_max2 C.calm)) (by rfl) m_max boot_max (a_cons (x_o (pv 12)) (a_cons (x_d d_int) a_nil)))) a_nil)))))) a_nil)))) (ss_cons (s_for C.own C.calm (i_seq (l := false) (d_call C G__law_box (by rfl) bp__law_box (a_cons (x_d (d_bin opd_mul (x_d (d_lst (a_cons (x_d d_int) a_nil))) (x_o (pv 3)))) (a_cons (x_d (d_lc C.calm C.nd (own := [("side", 11)]) (blkOk_by (by rfl)) (i_seq (l := false) (d_var (pv 2))) (fun _ _ _ _ _ => (g_name (is := [11]) (i := 11) C.blk.nd)) (fun _ _ _ _ _ => ts_nil) (fun _ _ _ _ _ => (d_bin opd_sub (x_o (pv 11)) (x_d d_int))))) a_nil)))) (g_name (is := [14]) (i := 14) C.nd) (ss_one (s_if (t_ch (opd_leD C.u64) (opd_leD C.u64) (x_o (pv 12)) (x_d (d_callB (bd_call (bd_sum C.calm)) (by rfl) m_sum boot_sum (a_cons (x_o (pv 14)) a_nil))) (x_o (pv 13))) (ss_cons (s_set (i := 15) C.nd (by rfl) (by first | exact Or.inl rfl | exact Or.inr rfl) (d_callB (bd_call (bd_sum C.calm)) (by rfl) m_sum boot_sum (a_cons (x_d (d_lc C.calm C.nd (own := [("bend", 16), ("x", 17)]) (blkOk_by (by rfl)) (i_zip (by rfl) m_zip (a_cons (x_d (d_var (pv 5))) (a_cons (x_d (d_var (pv 14))) a_nil))) (fun _ _ _ _ _ => (g_tup (n := 2) C.blk.calm (gs_cons (g_name (is := [16, 17]) (i := 16) C.blk.nd) (gs_cons (g_name (is := [16, 17]) (i := 17) C.blk.nd) gs_nil)))) (fun _ _ _ _ _ => ts_nil) (fun _ _ _ _ _ => (d_call C.blk G__law_bent (by rfl) bp__law_bent (a_cons (x_d (d_var (pv 16))) (a_cons (x_d (d_var (pv 17))) a_nil)))))) a_nil))) (ss_one (s_exp (d_mt m_app PySem.F.slot_list_append PySem.F.type_list_append (pv 9) (a_cons (x_d (d_tup (a_cons (x_d (d_var (pv 14))) (a_cons (x_d (d_bin opd_add (x_o (pv 15)) (x_d (d_callB (bd_call (bd_sum C.calm)) (by rfl) m_sum boot_sum (a_cons (x_d (d_lc C.calm C.nd (own := [("lot", 19), ("bend", 16)]) (blkOk_by (by rfl)) (i_seq (l := false) (d_var (pv 7))) (fun _ _ _ _ _ => (g_tup (n := 2) C.blk.calm (gs_cons (g_name (is := [19, 16]) (i := 19) C.blk.nd) (gs_cons (g_name (is := [19, 16]) (i := 16) C.blk.nd) gs_nil)))) (fun _ _ _ _ _ => ts_nil) (fun _ _ _ _ _ => (d_call C.blk G__law_bent (by rfl) bp__law_bent (a_cons (x_d (d_var (pv 16))) (a_cons (x_d (d_callB (bd_call (bd_sum C.blk.calm)) (by rfl) m_sum boot_sum (a_cons (x_d (d_lc C.blk.calm C.blk.nd (own := [("k", 18)]) (blkOk_by (by rfl)) (i_seq (l := false) (d_var (pv 19))) (fun _ _ _ _ _ => (g_name (is := [18]) (i := 18) C.blk.blk.nd)) (fun _ _ _ _ _ => ts_nil) (fun _ _ _ _ _ => (d_ixA C.blk.blk.u1 (x_o (pv 14)) (x_o (pv 18)))))) a_nil))) a_nil)))))) a_nil))))) a_nil)))) a_nil))))) ss_nil))) (ss_one (s_ret (d_call C G__law_shift (by rfl) bp__law_shift (a_cons (x_o (pv 0)) (a_cons (x_d (d_var (pv 9))) a_nil))))))))))))))
/-! _law_any_hill -/
theorem sc__law_any_hill : FnScope ["pot", "most", "sides", "some", "point", "side", "far"] ["pot", "most"] (defScope st__law_any_hill) := ⟨rfl, rfl, rfl, by decide +kernel, rfl, by decide +kernel, by decide +kernel⟩
theorem bp__law_any_hill : BindP "_law_any_hill" st__law_any_hill ["pot", "most"] 2 := fun _ _ _ _ _ _ us hl => match us, hl with | [_, _], _ => rfl
def w__law_any_hill : WS := (sSeq (sSet 2 (wCall 2 dsp__law_sides (aCons (xO 0) (aCons (xD (wV 1)) aNil)))) (sSeq (sSet 3 (wLc (iSq (wCall 2 dsp__law_box (aCons (xD (wO oMul (xD (wLst (aCons (xD (wC (.int 0))) aNil))) (xD (wB1 (oB bLen) (aCons (xO 2) aNil))))) (aCons (xD (wLc (iSq (wV 2)) [5] (gN 5) wYes (wO oSub (xO 5) (xD (wC (.int 1)))))) aNil)))) [4] (gN 4) (wB (wO oGt (xD (wCall 2 dsp__law_draw (aCons (xO 0) (aCons (xD (wC (.int 3))) aNil)))) (xD (wC (.int 0))))) (wV 4))) (sSeq (sSet 3 (wIf (wB (wO (oEq not) (xO 3) (xD (wLst aNil)))) (wV 3) (wLst (aCons (xD (wO oMul (xD (wTup (aCons (xD (wC (.int 0))) aNil))) (xD (wB1 (oB bLen) (aCons (xO 2) aNil))))) aNil)))) (sSeq (sSet 6 (wCall 2 dsp__law_pick (aCons (xO 0) (aCons (xD (wLst (aCons (xD (wC (.int 3))) (aCons (xD (wC (.int 9))) (aCons (xD (wC (.int 900))) aNil))))) aNil)))) (sRet (wCall 2 dsp__law_shift (aCons (xO 0) (aCons (xD (wLc (iSq (wV 3)) [4] (gN 4) wYes (wTup (aCons (xD (wV 4)) (aCons (xD (wO oSub (xD (wCall 2 dsp__law_draw (aCons (xO 0) (aCons (xD (wO oCat (xO 6) (xD (wC (.int 1))))) aNil)))) (xD (wO oDiv (xO 6) (xD (wC (.int 3))))))) aNil))))) aNil))))))))
def dsp__law_any_hill : DSp := dspOf 7 w__law_any_hill
theorem ok__law_any_hill {P : Program} {w : World} {K : PySem.W.Frag} {mg : Str → Option Value} {base : Heap} {k : Nat} {f : Addr} {fd : FuncData} (G__law_draw : Cal P w K mg base (k) "_law_draw" st__law_draw ["pot", "many"] dsp__law_draw) (G__law_pick : Cal P w K mg base (k) "_law_pick" st__law_pick ["pot", "row"] dsp__law_pick) (G__law_box : Cal P w K mg base (k) "_law_box" st__law_box ["low", "high"] dsp__law_box) (G__law_sides : Cal P w K mg base (k) "_law_sides" st__law_sides ["pot", "most"] dsp__law_sides) (G__law_shift : Cal P w K mg base (k) "_law_shift" st__law_shift ["pot", "hill"] dsp__law_shift) (m_len : mg "len" = none)       (F : Fun K "_law_any_hill" "_law_any_hill" st__law_any_hill f fd) : FnG P w K mg base (k + 1) f fd ["pot", "most"] (toSp K mg 2 dsp__law_any_hill) :=
  fun_does F sc__law_any_hill fun cdv A outer s H E C => (ss_cons (s_set (i := 2) C.nd (by rfl) (by first | exact Or.inl rfl | exact Or.inr rfl) (d_call C G__law_sides (by rfl) bp__law_sides (a_cons (x_o (pv 0)) (a_cons (x_d (d_var (pv 1))) a_nil)))) (ss_cons (s_setLcF (i := 3) (by rfl) (by rfl) (sw_true rfl rfl (by rfl) (by rfl)) C.calm C.nd (own := [("point", 4)]) (blkOk_by (by rfl)) (i_seq (l := false) (d_call C G__law_box (by rfl) bp__law_box (a_cons (x_d (d_bin opd_mul (x_d (d_lst (a_cons (x_d d_int) a_nil))) (x_d (d_callB (bd_call bd_len) (by rfl) m_len boot_len (a_cons (x_o (pv 2)) a_nil))))) (a_cons (x_d (d_lc C.calm C.nd (own := [("side", 5)]) (blkOk_by (by rfl)) (i_seq (l := false) (d_var (pv 2))) (fun _ _ _ _ _ => (g_name (is := [5]) (i := 5) C.blk.nd)) (fun _ _ _ _ _ => ts_nil) (fun _ _ _ _ _ => (d_bin opd_sub (x_o (pv 5)) (x_d d_int))))) a_nil)))) (fun _ _ _ _ _ => (g_name (is := [4]) (i := 4) C.blk.nd)) (fun _ _ _ _ _ => (ts_one (t_cmp (opd_gtD C.blk.u64) (x_d (d_call C.blk G__law_draw (by rfl) bp__law_draw (a_cons (x_o (pv 0)) (a_cons (x_d d_int) a_nil)))) (x_d d_int)))) (fun _ _ _ _ _ => (d_var (pv 4)))) (ss_cons (s_set (i := 3) C.nd (by rfl) (by first | exact Or.inl rfl | exact Or.inr rfl) (d_if (t_cmp (opd_ne C.u64) (x_o (pv 3)) (x_d (d_lst a_nil))) (d_var (pv 3)) (d_lst (a_cons (x_d (d_bin opd_mul (x_d (d_tup (a_cons (x_d d_int) a_nil))) (x_d (d_callB (bd_call bd_len) (by rfl) m_len boot_len (a_cons (x_o (pv 2)) a_nil))))) a_nil)))) (ss_cons (s_set (i := 6) C.nd (by rfl) (by first | exact Or.inl rfl | exact Or.inr rfl) (d_call C G__law_pick (by rfl) bp__law_pick (a_cons (x_o (pv 0)) (a_cons (x_d (d_lst (a_cons (x_d d_int) (a_cons (x_d d_int) (a_cons (x_d d_int) a_nil))))) a_nil)))) (ss_one (s_ret (d_call C G__law_shift (by rfl) bp__law_shift (a_cons (x_o (pv 0)) (a_cons (x_d (d_lc C.calm C.nd (own := [("point", 4)]) (blkOk_by (by rfl)) (i_seq (l := false) (d_var (pv 3))) (fun _ _ _ _ _ => (g_name (is := [4]) (i := 4) C.blk.nd)) (fun _ _ _ _ _ => ts_nil) (fun _ _ _ _ _ => (d_tup (a_cons (x_d (d_var (pv 4))) (a_cons (x_d (d_bin opd_sub (x_d (d_call C.blk G__law_draw (by rfl) bp__law_draw (a_cons (x_o (pv 0)) (a_cons (x_d (d_bin opd_add (x_o (pv 6)) (x_d d_int))) a_nil)))) (x_d (d_bin opd_div (x_o (pv 6)) (x_d d_int))))) a_nil)))))) a_nil)))))))))
/-! _law_hill -/
theorem sc__law_hill : FnScope ["pot", "most", "way"] ["pot", "most"] (defScope st__law_hill) := ⟨rfl, rfl, rfl, by decide +kernel, rfl, by decide +kernel, by decide +kernel⟩
theorem bp__law_hill : BindP "_law_hill" st__law_hill ["pot", "most"] 2 := fun _ _ _ _ _ _ us hl => match us, hl with | [_, _], _ => rfl
def w__law_hill : WS := (sSeq (sSet 2 (wCall 2 dsp__law_draw (aCons (xO 0) (aCons (xD (wC (.int 4))) aNil)))) (sSeq (sIf (wB (wO (oEq id) (xO 2) (xD (wC (.int 0))))) (sRet (wCall 2 dsp__law_m_hill (aCons (xO 0) (aCons (xD (wV 1)) aNil)))) sNil) (sRet (wIf (wB (wO (oEq id) (xO 2) (xD (wC (.int 1))))) (wCall 2 dsp__law_l_hill (aCons (xO 0) (aCons (xD (wV 1)) aNil))) (wCall 2 dsp__law_any_hill (aCons (xO 0) (aCons (xD (wV 1)) aNil)))))))
def dsp__law_hill : DSp := dspOf 3 w__law_hill
theorem ok__law_hill {P : Program} {w : World} {K : PySem.W.Frag} {mg : Str → Option Value} {base : Heap} {k : Nat} {f : Addr} {fd : FuncData} (G__law_draw : Cal P w K mg base (k) "_law_draw" st__law_draw ["pot", "many"] dsp__law_draw) (G__law_l_hill : Cal P w K mg base (k) "_law_l_hill" st__law_l_hill ["pot", "most"] dsp__law_l_hill) (G__law_m_hill : Cal P w K mg base (k) "_law_m_hill" st__law_m_hill ["pot", "most"] dsp__law_m_hill) (G__law_any_hill : Cal P w K mg base (k) "_law_any_hill" st__law_any_hill ["pot", "most"] dsp__law_any_hill)        (F : Fun K "_law_hill" "_law_hill" st__law_hill f fd) : FnG P w K mg base (k + 1) f fd ["pot", "most"] (toSp K mg 2 dsp__law_hill) :=
  fun_does F sc__law_hill fun cdv A outer s H E C => (ss_cons (s_set (i := 2) C.nd (by rfl) (by first | exact Or.inl rfl | exact Or.inr rfl) (d_call C G__law_draw (by rfl) bp__law_draw (a_cons (x_o (pv 0)) (a_cons (x_d d_int) a_nil)))) (ss_cons (s_if (t_cmp (opd_eq C.u64) (x_o (pv 2)) (x_d d_int)) (ss_one (s_ret (d_call C G__law_m_hill (by rfl) bp__law_m_hill (a_cons (x_o (pv 0)) (a_cons (x_d (d_var (pv 1))) a_nil))))) ss_nil) (ss_one (s_ret (d_if (t_cmp (opd_eq C.u64) (x_o (pv 2)) (x_d d_int)) (d_call C G__law_l_hill (by rfl) bp__law_l_hill (a_cons (x_o (pv 0)) (a_cons (x_d (d_var (pv 1))) a_nil))) (d_call C G__law_any_hill (by rfl) bp__law_any_hill (a_cons (x_o (pv 0)) (a_cons (x_d (d_var (pv 1))) a_nil))))))))
/-! _law_times -/
theorem sc__law_times : FnScope ["prices", "point", "p", "x"] ["prices", "point"] (defScope st__law_times) := ⟨rfl, rfl, rfl, by decide +kernel, rfl, by decide +kernel, by decide +kernel⟩
theorem bp__law_times : BindP "_law_times" st__law_times ["prices", "point"] 2 := fun _ _ _ _ _ _ us hl => match us, hl with | [_, _], _ => rfl
def w__law_times : WS := (sRet (wB1 (oB bSum) (aCons (xD (wLc (iZip (aCons (xD (wV 0)) (aCons (xD (wV 1)) aNil))) [2, 3] (gsN 2 (gCons' (gN 2) (gCons' (gN 3) gNil'))) wYes (wO oMul (xO 2) (xO 3)))) aNil)))
def dsp__law_times : DSp := dspOf 4 w__law_times
theorem ok__law_times {P : Program} {w : World} {K : PySem.W.Frag} {mg : Str → Option Value} {base : Heap} {k : Nat} {f : Addr} {fd : FuncData}  (m_sum : mg "sum" = none) (m_zip : mg "zip" = none)       (F : Fun K "_law_times" "_law_times" st__law_times f fd) : FnG P w K mg base (k + 1) f fd ["prices", "point"] (toSp K mg 2 dsp__law_times) :=
  fun_does F sc__law_times fun cdv A outer s H E C => (ss_one (s_ret (d_callB (bd_call (bd_sum C.calm)) (by rfl) m_sum boot_sum (a_cons (x_d (d_lc C.calm C.nd (own := [("p", 2), ("x", 3)]) (blkOk_by (by rfl)) (i_zip (by rfl) m_zip (a_cons (x_d (d_var (pv 0))) (a_cons (x_d (d_var (pv 1))) a_nil))) (fun _ _ _ _ _ => (g_tup (n := 2) C.blk.calm (gs_cons (g_name (is := [2, 3]) (i := 2) C.blk.nd) (gs_cons (g_name (is := [2, 3]) (i := 3) C.blk.nd) gs_nil)))) (fun _ _ _ _ _ => ts_nil) (fun _ _ _ _ _ => (d_bin opd_mul (x_o (pv 2)) (x_o (pv 3)))))) a_nil))))
/-! _law_prices -/
theorem sc__law_prices : FnScope ["pot", "many", "far", "place"] ["pot", "many", "far"] (defScope st__law_prices) := ⟨rfl, rfl, rfl, by decide +kernel, rfl, by decide +kernel, by decide +kernel⟩
theorem bp__law_prices : BindP "_law_prices" st__law_prices ["pot", "many", "far"] 3 := fun _ _ _ _ _ _ us hl => match us, hl with | [_, _, _], _ => rfl
def w__law_prices : WS := (sRet (wB1 (oB bTup) (aCons (xD (wLc (iRg1 (aCons (xO 1) aNil)) [3] (gN 3) wYes (wO oSub (xD (wCall 2 dsp__law_draw (aCons (xO 0) (aCons (xD (wO oCat (xD (wO oMul (xD (wC (.int 2))) (xO 2))) (xD (wC (.int 1))))) aNil)))) (xO 2)))) aNil)))
def dsp__law_prices : DSp := dspOf 4 w__law_prices
theorem ok__law_prices {P : Program} {w : World} {K : PySem.W.Frag} {mg : Str → Option Value} {base : Heap} {k : Nat} {f : Addr} {fd : FuncData} (G__law_draw : Cal P w K mg base (k) "_law_draw" st__law_draw ["pot", "many"] dsp__law_draw) (m_range : mg "range" = none) (m_tuple : mg "tuple" = none)       (F : Fun K "_law_prices" "_law_prices" st__law_prices f fd) : FnG P w K mg base (k + 1) f fd ["pot", "many", "far"] (toSp K mg 3 dsp__law_prices) :=
  fun_does F sc__law_prices fun cdv A outer s H E C => (ss_one (s_ret (d_callT (bd_call bd_tup) (by rfl) m_tuple boot_tuple (a_cons (x_d (d_lc C.calm C.nd (own := [("place", 3)]) (blkOk_by (by rfl)) (i_rg1 (l := false) (by rfl) m_range (a_cons (x_o (pv 1)) a_nil)) (fun _ _ _ _ _ => (g_name (is := [3]) (i := 3) C.blk.nd)) (fun _ _ _ _ _ => ts_nil) (fun _ _ _ _ _ => (d_bin opd_sub (x_d (d_call C.blk G__law_draw (by rfl) bp__law_draw (a_cons (x_o (pv 0)) (a_cons (x_d (d_bin opd_add (x_d (d_bin opd_mul (x_d d_int) (x_o (pv 2)))) (x_d d_int))) a_nil)))) (x_o (pv 2)))))) a_nil))))
/-! _law_greatest -/
theorem sc__law_greatest : FnScope ["hill", "prices", "point", "worth"] ["hill", "prices"] (defScope st__law_greatest) := ⟨rfl, rfl, rfl, by decide +kernel, rfl, by decide +kernel, by decide +kernel⟩
theorem bp__law_greatest : BindP "_law_greatest" st__law_greatest ["hill", "prices"] 2 := fun _ _ _ _ _ _ us hl => match us, hl with | [_, _], _ => rfl
def w__law_greatest : WS := (sRet (wB1 (oB bMx1) (aCons (xD (wLc (iSq (wV 0)) [2, 3] (gsN 2 (gCons' (gN 2) (gCons' (gN 3) gNil'))) wYes (wO oSub (xD (wCall 2 dsp__law_times (aCons (xD (wV 1)) (aCons (xD (wV 2)) aNil)))) (xO 3)))) aNil)))
def dsp__law_greatest : DSp := dspOf 4 w__law_greatest
theorem ok__law_greatest {P : Program} {w : World} {K : PySem.W.Frag} {mg : Str → Option Value} {base : Heap} {k : Nat} {f : Addr} {fd : FuncData} (G__law_times : Cal P w K mg base (k) "_law_times" st__law_times ["prices", "point"] dsp__law_times) (m_max : mg "max" = none)       (F : Fun K "_law_greatest" "_law_greatest" st__law_greatest f fd) : FnG P w K mg base (k + 1) f fd ["hill", "prices"] (toSp K mg 2 dsp__law_greatest) :=
  fun_does F sc__law_greatest fun cdv A outer s H E C => (ss_one (s_ret (d_callB (bd_call (bd_max1 C.calm C.u60)) (by rfl) m_max boot_max (a_cons (x_d (d_lc C.calm C.nd (own := [("point", 2), ("worth", 3)]) (blkOk_by (by rfl)) (i_seq (l := false) (d_var (pv 0))) (fun _ _ _ _ _ => (g_tup (n := 2) C.blk.calm (gs_cons (g_name (is := [2, 3]) (i := 2) C.blk.nd) (gs_cons (g_name (is := [2, 3]) (i := 3) C.blk.nd) gs_nil)))) (fun _ _ _ _ _ => ts_nil) (fun _ _ _ _ _ => (d_bin opd_sub (x_d (d_call C.blk G__law_times (by rfl) bp__law_times (a_cons (x_d (d_var (pv 1))) (a_cons (x_d (d_var (pv 2))) a_nil)))) (x_o (pv 3)))))) a_nil))))
/-! _law_due -/
theorem sc__law_due : FnScope ["hill", "low", "high", "total", "one", "other", "found", "prices", "worth"] ["hill", "low", "high"] (defScope st__law_due) := ⟨rfl, rfl, rfl, by decide +kernel, rfl, by decide +kernel, by decide +kernel⟩
theorem bp__law_due : BindP "_law_due" st__law_due ["hill", "low", "high"] 3 := fun _ _ _ _ _ _ us hl => match us, hl with | [_, _, _], _ => rfl
def w__law_due : WS := (sSeq (sSet 3 (wC (.int 1))) (sSeq (sFor (iZip (aCons (xD (wV 1)) (aCons (xD (wV 2)) aNil))) (gsN 2 (gCons' (gN 4) (gCons' (gN 5) gNil'))) (sSet 3 (wO oMul (xO 3) (xD (wO oCat (xD (wO oSub (xO 5) (xO 4))) (xD (wC (.int 1)))))))) (sSeq (sIf (wB (wO oGt (xO 3) (xD (wC (.int 50))))) (sRet (wLst (aCons (xD (wC (.str "many"))) (aCons (xD (wC (.int 50))) (aCons (xD (wC (.bool true))) aNil))))) sNil) (sSeq (sSet 6 (wB1 (oB bTup) (aCons (xD (wLc (iSq (wCall 2 dsp__law_box (aCons (xD (wV 1)) (aCons (xD (wV 2)) aNil)))) [7] (gN 7) wYes (wTup (aCons (xD (wV 7)) (aCons (xD (wCall 2 dsp__law_greatest (aCons (xD (wV 0)) (aCons (xD (wV 7)) aNil)))) aNil))))) aNil))) (sSeq (sIf (wB (wO (oEq not) (xD (wLc (iSq (wV 6)) [7, 8] (gsN 2 (gCons' (gN 7) (gCons' (gN 8) gNil'))) (wNot (wB (wCh oLe oLe (xD (wU oNeg (xD (wC (.int 1000))))) (xO 8) (xD (wC (.int 1000)))))) (wC (.int 0)))) (xD (wLst aNil)))) (sRet (wLst (aCons (xD (wC (.str "many"))) (aCons (xD (wC (.int 1000))) (aCons (xD (wC (.bool true))) aNil))))) sNil) (sRet (wLst (aCons (xD (wC (.str "told"))) (aCons (xD (wV 6)) aNil)))))))))
def dsp__law_due : DSp := dspOf 9 w__law_due
theorem ok__law_due {P : Program} {w : World} {K : PySem.W.Frag} {mg : Str → Option Value} {base : Heap} {k : Nat} {f : Addr} {fd : FuncData} (G__law_box : Cal P w K mg base (k) "_law_box" st__law_box ["low", "high"] dsp__law_box) (G__law_greatest : Cal P w K mg base (k) "_law_greatest" st__law_greatest ["hill", "prices"] dsp__law_greatest) (m_tuple : mg "tuple" = none) (m_zip : mg "zip" = none)       (F : Fun K "_law_due" "_law_due" st__law_due f fd) : FnG P w K mg base (k + 1) f fd ["hill", "low", "high"] (toSp K mg 3 dsp__law_due) :=
  fun_does F sc__law_due fun cdv A outer s H E C => (ss_cons (s_set (i := 3) C.nd (by rfl) (by first | exact Or.inl rfl | exact Or.inr rfl) d_int) (ss_cons (s_for C.own C.calm (i_zip (by rfl) m_zip (a_cons (x_d (d_var (pv 1))) (a_cons (x_d (d_var (pv 2))) a_nil))) (g_tup (n := 2) C.calm (gs_cons (g_name (is := [4, 5]) (i := 4) C.nd) (gs_cons (g_name (is := [4, 5]) (i := 5) C.nd) gs_nil))) (ss_one (s_set (i := 3) C.nd (by rfl) (by first | exact Or.inl rfl | exact Or.inr rfl) (d_bin opd_mul (x_o (pv 3)) (x_d (d_bin opd_add (x_d (d_bin opd_sub (x_o (pv 5)) (x_o (pv 4)))) (x_d d_int))))))) (ss_cons (s_if (t_cmp (opd_gtD C.u64) (x_o (pv 3)) (x_d d_int)) (ss_one (s_ret (d_lst (a_cons (x_d d_str) (a_cons (x_d d_int) (a_cons (x_d d_bl) a_nil)))))) ss_nil) (ss_cons (s_set (i := 6) C.nd (by rfl) (by first | exact Or.inl rfl | exact Or.inr rfl) (d_callT (bd_call bd_tup) (by rfl) m_tuple boot_tuple (a_cons (x_d (d_lc C.calm C.nd (own := [("prices", 7)]) (blkOk_by (by rfl)) (i_seq (l := false) (d_call C G__law_box (by rfl) bp__law_box (a_cons (x_d (d_var (pv 1))) (a_cons (x_d (d_var (pv 2))) a_nil)))) (fun _ _ _ _ _ => (g_name (is := [7]) (i := 7) C.blk.nd)) (fun _ _ _ _ _ => ts_nil) (fun _ _ _ _ _ => (d_tup (a_cons (x_d (d_var (pv 7))) (a_cons (x_d (d_call C.blk G__law_greatest (by rfl) bp__law_greatest (a_cons (x_d (d_var (pv 0))) (a_cons (x_d (d_var (pv 7))) a_nil)))) a_nil)))))) a_nil))) (ss_cons (s_if (t_cmp (opd_ne C.u64) (x_d (d_lc C.calm C.nd (own := [("prices", 7), ("worth", 8)]) (blkOk_by (by rfl)) (i_seq (l := false) (d_var (pv 6))) (fun _ _ _ _ _ => (g_tup (n := 2) C.blk.calm (gs_cons (g_name (is := [7, 8]) (i := 7) C.blk.nd) (gs_cons (g_name (is := [7, 8]) (i := 8) C.blk.nd) gs_nil)))) (fun _ _ _ _ _ => (ts_one (t_not (t_ch (opd_leD C.blk.u64) (opd_leD C.blk.u64) (x_d (d_un und_neg (x_d d_int))) (x_o (pv 8)) (x_d d_int))))) (fun _ _ _ _ _ => d_int))) (x_d (d_lst a_nil))) (ss_one (s_ret (d_lst (a_cons (x_d d_str) (a_cons (x_d d_int) (a_cons (x_d d_bl) a_nil)))))) ss_nil) (ss_one (s_ret (d_lst (a_cons (x_d d_str) (a_cons (x_d (d_var (pv 6))) a_nil))))))))))
/-! _law_asked -/
theorem sc__law_asked : FnScope ["hill", "low", "high", "is_named", "error"] ["hill", "low", "high", "is_named"] (defScope st__law_asked) := ⟨rfl, rfl, rfl, by decide +kernel, rfl, by decide +kernel, by decide +kernel⟩
theorem bp__law_asked : BindP "_law_asked" st__law_asked ["hill", "low", "high", "is_named"] 4 := fun _ _ _ _ _ _ us hl => match us, hl with | [_, _, _, _], _ => rfl
def w__law_asked : WS := (sTryX tabX_TooMany 4 (sSeq (sIf (wTr (xO 3)) (sRet (wLst (aCons (xD (wC (.str "told"))) (aCons (xD (wCallK [2, 1, 0] 0 3 dsp_conjugate_hill aNil (aCons (xD (wV 2)) (aCons (xD (wV 1)) (aCons (xD (wV 0)) aNil))))) aNil)))) sNil) (sRet (wLst (aCons (xD (wC (.str "told"))) (aCons (xD (wCall 3 dsp_conjugate_hill (aCons (xD (wV 0)) (aCons (xD (wV 1)) (aCons (xD (wV 2)) aNil))))) aNil))))) fun cc aa cls dd => sRet (wLst (aCons (xD (wC (.str "many"))) (aCons (xD (wXf 4 "limit" aa cls dd)) (aCons (xD (wXi 4 tabI_TooMany_HillError cc aa cls dd)) aNil)))))
def dsp__law_asked : DSp := dspOf 5 w__law_asked
theorem ok__law_asked {P : Program} {w : World} {K : PySem.W.Frag} {mg : Str → Option Value} {base : Heap} {k : Nat} {f : Addr} {fd : FuncData} (G_conjugate_hill : Cal P w K mg base (k) "conjugate_hill" st_conjugate_hill ["hill", "low", "high"] dsp_conjugate_hill) (m_isinstance : mg "isinstance" = none)    (X_TooMany : ExTab K mg "TooMany" tabX_TooMany) (XF_TooMany : ∃ C, mg "TooMany" = some (.ref C) ∧ XfC K C ∧ PySem.W.findIn K (.ref C) "limit" = some none) (I_TooMany_HillError : IsTab K mg "HillError" tabI_TooMany_HillError) (F : Fun K "_law_asked" "_law_asked" st__law_asked f fd) : FnG P w K mg base (k + 1) f fd ["hill", "low", "high", "is_named"] (toSp K mg 4 dsp__law_asked) :=
  fun_does F sc__law_asked fun cdv A outer s H E C => (ss_one (s_tryX (i := 4) C X_TooMany (by rfl) rfl rfl rfl rfl (fun C9 => (ss_cons (s_if (t_tru (x_o (pv 3))) (ss_one (s_ret (d_lst (a_cons (x_d d_str) (a_cons (x_d (d_callW (ks := ["high", "low", "hill"]) (is := [2, 1, 0]) (m := 3) C9 G_conjugate_hill (by rfl) (fun _ _ _ _ _ _ us zs hu hz => match us, zs, hu, hz with | [], [_, _, _], _, _ => rfl) (by rfl) (k_cons (x_d (d_var (pv 2))) (k_cons (x_d (d_var (pv 1))) (k_cons (x_d (d_var (pv 0))) k_nil))))) a_nil))))) ss_nil) (ss_one (s_ret (d_lst (a_cons (x_d d_str) (a_cons (x_d (d_call C9 G_conjugate_hill (by rfl) bp_conjugate_hill (a_cons (x_d (d_var (pv 0))) (a_cons (x_d (d_var (pv 1))) (a_cons (x_d (d_var (pv 2))) a_nil))))) a_nil))))))) (fun cc aa oe cls dd pn hz hd hc1 hc2 => ss_one (s_ret (d_lst (a_cons (x_d d_str) (a_cons (x_d (d_xf XF_TooMany ⟨cc, hc1, hc2⟩ tabX_TooMany_one hz hd (pv 4))) (a_cons (x_d (d_xi I_TooMany_HillError hc1 hz hd (by rfl) m_isinstance (by decide +kernel) (by rfl) (pv 4))) a_nil))))))))
/-! _law_room -/
theorem sc__law_room : FnScope ["pot", "many", "some", "low", "high", "just", "sides", "place", "side", "one"] ["pot", "many"] (defScope st__law_room) := ⟨rfl, rfl, rfl, by decide +kernel, rfl, by decide +kernel, by decide +kernel⟩
theorem bp__law_room : BindP "_law_room" st__law_room ["pot", "many"] 2 := fun _ _ _ _ _ _ us hl => match us, hl with | [_, _], _ => rfl
def w__law_room : WS := (sSeq (sSet 2 (wO oIxA (xD (wLst (aCons (xD (wLst (aCons (xD (wC (.int 1))) (aCons (xD (wC (.int 2))) (aCons (xD (wC (.int 5))) (aCons (xD (wC (.int 40))) (aCons (xD (wC (.int 41))) aNil))))))) (aCons (xD (wLst (aCons (xD (wC (.int 3))) (aCons (xD (wC (.int 5))) (aCons (xD (wC (.int 7))) (aCons (xD (wC (.int 7))) aNil)))))) (aCons (xD (wLst (aCons (xD (wC (.int 2))) (aCons (xD (wC (.int 3))) (aCons (xD (wC (.int 4))) aNil))))) (aCons (xD (wLst (aCons (xD (wC (.int 1))) (aCons (xD (wC (.int 2))) (aCons (xD (wC (.int 2))) (aCons (xD (wC (.int 3))) aNil)))))) aNil)))))) (xD (wO oSub (xO 1) (xD (wC (.int 1))))))) (sSeq (sPar [3, 4] (nsCons (wLst aNil) (nsCons (wLst aNil) nsNil))) (sSeq (sSetN 5 (wLst (aCons (xD (wLst (aCons (xD (wTup (aCons (xD (wC (.int 5))) (aCons (xD (wC (.int 10))) aNil)))) (aCons (xD (wTup (aCons (xD (wC (.int 10))) (aCons (xD (wC (.int 5))) aNil)))) (aCons (xD (wTup (aCons (xD (wC (.int 2))) (aCons (xD (wC (.int 25))) aNil)))) (aCons (xD (wTup (aCons (xD (wC (.int 25))) (aCons (xD (wC (.int 2))) aNil)))) (aCons (xD (wTup (aCons (xD (wC (.int 3))) (aCons (xD (wC (.int 17))) aNil)))) (aCons (xD (wTup (aCons (xD (wC (.int 17))) (aCons (xD (wC (.int 3))) aNil)))) aNil)))))))) (aCons (xD (wLst (aCons (xD (wTup (aCons (xD (wC (.int 5))) (aCons (xD (wC (.int 5))) (aCons (xD (wC (.int 2))) aNil))))) (aCons (xD (wTup (aCons (xD (wC (.int 2))) (aCons (xD (wC (.int 5))) (aCons (xD (wC (.int 5))) aNil))))) (aCons (xD (wTup (aCons (xD (wC (.int 1))) (aCons (xD (wC (.int 25))) (aCons (xD (wC (.int 2))) aNil))))) (aCons (xD (wTup (aCons (xD (wC (.int 17))) (aCons (xD (wC (.int 3))) (aCons (xD (wC (.int 1))) aNil))))) aNil)))))) aNil)))) (sSeq (sExp (wMt 5 mApp (aCons (xD (wLst (aCons (xD (wTup (aCons (xD (wC (.int 5))) (aCons (xD (wC (.int 5))) (aCons (xD (wC (.int 2))) (aCons (xD (wC (.int 1))) aNil)))))) (aCons (xD (wTup (aCons (xD (wC (.int 1))) (aCons (xD (wC (.int 2))) (aCons (xD (wC (.int 5))) (aCons (xD (wC (.int 5))) aNil)))))) (aCons (xD (wTup (aCons (xD (wC (.int 5))) (aCons (xD (wC (.int 1))) (aCons (xD (wC (.int 10))) (aCons (xD (wC (.int 1))) aNil)))))) (aCons (xD (wTup (aCons (xD (wC (.int 3))) (aCons (xD (wC (.int 1))) (aCons (xD (wC (.int 1))) (aCons (xD (wC (.int 17))) aNil)))))) aNil)))))) aNil))) (sSeq (sSet 6 (wIf (wAnd (wB (wO oGt (xO 1) (xD (wC (.int 1))))) (wB (wO (oEq id) (xD (wCall 2 dsp__law_draw (aCons (xO 0) (aCons (xD (wC (.int 4))) aNil)))) (xD (wC (.int 0)))))) (wCall 2 dsp__law_pick (aCons (xO 0) (aCons (xD (wO oIxA (xO 5) (xD (wO oSub (xO 1) (xD (wC (.int 2))))))) aNil))) (wC .none))) (sSeq (sFor (iRg1 (aCons (xO 1) aNil)) (gN 7) (sSeq (sSet 8 (wIf (wB (wO (oIs id) (xO 6) (xD (wC .none)))) (wCall 2 dsp__law_pick (aCons (xO 0) (aCons (xD (wV 2)) aNil))) (wO oIxA (xO 6) (xO 7)))) (sSeq (sSet 9 (wO oSub (xD (wCall 2 dsp__law_draw (aCons (xO 0) (aCons (xD (wO oSub (xD (wC (.int 42))) (xO 8))) aNil)))) (xD (wC (.int 20))))) (sSeq (sExp (wMt 3 mApp (aCons (xD (wIf (wB (wO (oEq id) (xD (wCall 2 dsp__law_draw (aCons (xO 0) (aCons (xD (wC (.int 2))) aNil)))) (xD (wC (.int 0))))) (wV 9) (wB1 (oB bMx2) (aCons (xD (wU oNeg (xD (wC (.int 20))))) (aCons (xD (wB1 (oB bMn2) (aCons (xD (wC (.int 0))) (aCons (xD (wO oSub (xD (wC (.int 20))) (xO 8))) aNil)))) aNil))))) aNil))) (sExp (wMt 4 mApp (aCons (xD (wB1 (oB bMn2) (aCons (xD (wC (.int 20))) (aCons (xD (wO oSub (xD (wO oCat (xD (wO oIxA (xO 3) (xD (wU oNeg (xD (wC (.int 1))))))) (xO 8))) (xD (wC (.int 1))))) aNil)))) aNil))))))) (sRet (wTup (aCons (xD (wB1 (oB bTup) (aCons (xO 3) aNil))) (aCons (xD (wB1 (oB bTup) (aCons (xO 4) aNil))) aNil))))))))))
def dsp__law_room : DSp := dspOf 10 w__law_room
theorem ok__law_room {P : Program} {w : World} {K : PySem.W.Frag} {mg : Str → Option Value} {base : Heap} {k : Nat} {f : Addr} {fd : FuncData} (G__law_draw : Cal P w K mg base (k) "_law_draw" st__law_draw ["pot", "many"] dsp__law_draw) (G__law_pick : Cal P w K mg base (k) "_law_pick" st__law_pick ["pot", "row"] dsp__law_pick) (m_max : mg "max" = none) (m_min : mg "min" = none) (m_range : mg "range" = none) (m_tuple : mg "tuple" = none)       (F : Fun K "_law_room" "_law_room" st__law_room f fd) : FnG P w K mg base (k + 1) f fd ["pot", "many"] (toSp K mg 2 dsp__law_room) :=
  fun_does F sc__law_room fun cdv A outer s H E C => (ss_cons (s_set (i := 2) C.nd (by rfl) (by first | exact Or.inl rfl | exact Or.inr rfl) (d_ixA C.u1 (x_d (d_lst (a_cons (x_d (d_lst (a_cons (x_d d_int) (a_cons (x_d d_int) (a_cons (x_d d_int) (a_cons (x_d d_int) (a_cons (x_d d_int) a_nil))))))) (a_cons (x_d (d_lst (a_cons (x_d d_int) (a_cons (x_d d_int) (a_cons (x_d d_int) (a_cons (x_d d_int) a_nil)))))) (a_cons (x_d (d_lst (a_cons (x_d d_int) (a_cons (x_d d_int) (a_cons (x_d d_int) a_nil))))) (a_cons (x_d (d_lst (a_cons (x_d d_int) (a_cons (x_d d_int) (a_cons (x_d d_int) (a_cons (x_d d_int) a_nil)))))) a_nil)))))) (x_d (d_bin opd_sub (x_o (pv 1)) (x_d d_int))))) (ss_cons (s_par (i := 3) (j := 4) C.calm C.nd (n_cons (d_lst a_nil) (n_cons (d_lst a_nil) n_nil))) (ss_cons (s_setN (i := 5) C.nd (by rfl) (by first | exact Or.inl rfl | exact Or.inr rfl) (d_lst (a_cons (x_d (d_lst (a_cons (x_d (d_tup (a_cons (x_d d_int) (a_cons (x_d d_int) a_nil)))) (a_cons (x_d (d_tup (a_cons (x_d d_int) (a_cons (x_d d_int) a_nil)))) (a_cons (x_d (d_tup (a_cons (x_d d_int) (a_cons (x_d d_int) a_nil)))) (a_cons (x_d (d_tup (a_cons (x_d d_int) (a_cons (x_d d_int) a_nil)))) (a_cons (x_d (d_tup (a_cons (x_d d_int) (a_cons (x_d d_int) a_nil)))) (a_cons (x_d (d_tup (a_cons (x_d d_int) (a_cons (x_d d_int) a_nil)))) a_nil)))))))) (a_cons (x_d (d_lst (a_cons (x_d (d_tup (a_cons (x_d d_int) (a_cons (x_d d_int) (a_cons (x_d d_int) a_nil))))) (a_cons (x_d (d_tup (a_cons (x_d d_int) (a_cons (x_d d_int) (a_cons (x_d d_int) a_nil))))) (a_cons (x_d (d_tup (a_cons (x_d d_int) (a_cons (x_d d_int) (a_cons (x_d d_int) a_nil))))) (a_cons (x_d (d_tup (a_cons (x_d d_int) (a_cons (x_d d_int) (a_cons (x_d d_int) a_nil))))) a_nil)))))) a_nil)))) (ss_cons (s_exp (d_mt m_app PySem.F.slot_list_append PySem.F.type_list_append (pv 5) (a_cons (x_d (d_lst (a_cons (x_d (d_tup (a_cons (x_d d_int) (a_cons (x_d d_int) (a_cons (x_d d_int) (a_cons (x_d d_int) a_nil)))))) (a_cons (x_d (d_tup (a_cons (x_d d_int) (a_cons (x_d d_int) (a_cons (x_d d_int) (a_cons (x_d d_int) a_nil)))))) (a_cons (x_d (d_tup (a_cons (x_d d_int) (a_cons (x_d d_int) (a_cons (x_d d_int) (a_cons (x_d d_int) a_nil)))))) (a_cons (x_d (d_tup (a_cons (x_d d_int) (a_cons (x_d d_int) (a_cons (x_d d_int) (a_cons (x_d d_int) a_nil)))))) a_nil)))))) a_nil))) (ss_cons (s_set (i := 6) C.nd (by rfl) (by first | exact Or.inl rfl | exact Or.inr rfl) (d_if (PW.pt (q_and (t_cmp (opd_gtD C.u64) (x_o (pv 1)) (x_d d_int)) (q_and1 (t_cmp (opd_eq C.u64) (x_d (d_call C G__law_draw (by rfl) bp__law_draw (a_cons (x_o (pv 0)) (a_cons (x_d d_int) a_nil)))) (x_d d_int))))) (d_call C G__law_pick (by rfl) bp__law_pick (a_cons (x_o (pv 0)) (a_cons (x_d (d_ixA C.u1 (x_o (pv 5)) (x_d (d_bin opd_sub (x_o (pv 1)) (x_d d_int))))) a_nil))) d_non)) (ss_cons (s_for C.own C.calm (i_rg1 (l := false) (by rfl) m_range (a_cons (x_o (pv 1)) a_nil)) (g_name (is := [7]) (i := 7) C.nd) (ss_cons (s_set (i := 8) C.nd (by rfl) (by first | exact Or.inl rfl | exact Or.inr rfl) (d_if (t_cmp opd_is (x_o (pv 6)) (x_d d_non)) (d_call C G__law_pick (by rfl) bp__law_pick (a_cons (x_o (pv 0)) (a_cons (x_d (d_var (pv 2))) a_nil))) (d_ixA C.u1 (x_o (pv 6)) (x_o (pv 7))))) (ss_cons (s_set (i := 9) C.nd (by rfl) (by first | exact Or.inl rfl | exact Or.inr rfl) (d_bin opd_sub (x_d (d_call C G__law_draw (by rfl) bp__law_draw (a_cons (x_o (pv 0)) (a_cons (x_d (d_bin opd_sub (x_d d_int) (x_o (pv 8)))) a_nil)))) (x_d d_int))) (ss_cons (s_exp (d_mt m_app PySem.F.slot_list_append PySem.F.type_list_append (pv 3) (a_cons (x_d (d_if (t_cmp (opd_eq C.u64) (x_d (d_call C G__law_draw (by rfl) bp__law_draw (a_cons (x_o (pv 0)) (a_cons (x_d d_int) a_nil)))) (x_d d_int)) (d_var (pv 9)) (d_callB (bd_call (bd_max2 C.calm)) (by rfl) m_max boot_max (a_cons (x_d (d_un und_neg (x_d d_int))) (a_cons (x_d (d_callB (bd_call (bd_min2 C.calm)) (by rfl) m_min boot_min (a_cons (x_d d_int) (a_cons (x_d (d_bin opd_sub (x_d d_int) (x_o (pv 8)))) a_nil)))) a_nil))))) a_nil))) (ss_one (s_exp (d_mt m_app PySem.F.slot_list_append PySem.F.type_list_append (pv 4) (a_cons (x_d (d_callB (bd_call (bd_min2 C.calm)) (by rfl) m_min boot_min (a_cons (x_d d_int) (a_cons (x_d (d_bin opd_sub (x_d (d_bin opd_add (x_d (d_ixA C.u1 (x_o (pv 3)) (x_d (d_un und_neg (x_d d_int))))) (x_o (pv 8)))) (x_d d_int))) a_nil)))) a_nil)))))))) (ss_one (s_ret (d_tup (a_cons (x_d (d_callT (bd_call bd_tup) (by rfl) m_tuple boot_tuple (a_cons (x_o (pv 3)) a_nil))) (a_cons (x_d (d_callT (bd_call bd_tup) (by rfl) m_tuple boot_tuple (a_cons (x_o (pv 4)) a_nil))) a_nil)))))))))))
/-! law -/
theorem sc_law : FnScope ["script", "pot", "turn", "hill", "many", "shown", "far", "prices", "due", "again", "low", "high", "told"] ["script"] (defScope st_law) := ⟨rfl, rfl, rfl, by decide +kernel, rfl, by decide +kernel, by decide +kernel⟩
theorem bp_law : BindP "law" st_law ["script"] 1 := fun _ _ _ _ _ _ us hl => match us, hl with | [_], _ => rfl
def w_law : WS := (sSeq (sSetN 1 (wCall 1 dsp__law_pot (aCons (xO 0) aNil))) (sSeq (sFor (iRg1 (aCons (xD (wC (.int 3))) aNil)) (gN 2) (sSeq (sSet 3 (wCall 2 dsp__law_hill (aCons (xO 1) (aCons (xD (wC (.int 20))) aNil)))) (sSeq (sPar [4, 5] (nsCons (wF (wB1 (oB bLen) (aCons (xD (wO oIxA (xD (wO oIxA (xO 3) (xD (wC (.int 0))))) (xD (wC (.int 0))))) aNil))) (nsCons (wF (wB1 (oB bRepr) (aCons (xO 3) aNil))) nsNil))) (sSeq (sFor (iSq (wTup (aCons (xD (wC (.int 2))) (aCons (xD (wC (.int 20))) (aCons (xD (wC (.int 10000))) aNil))))) (gN 6) (sSeq (sSet 7 (wCall 3 dsp__law_prices (aCons (xO 1) (aCons (xD (wV 4)) (aCons (xD (wV 6)) aNil))))) (sSeq (sSet 8 (wCall 2 dsp__law_greatest (aCons (xD (wV 3)) (aCons (xD (wV 7)) aNil)))) (sIf (wB (wO (oEq not) (xD (wB1 (oB bRepr) (aCons (xD (wLst (aCons (xD (wCall 2 dsp_conjugate_at (aCons (xD (wV 3)) (aCons (xD (wV 7)) aNil)))) (aCons (xD (wCallK [1, 0] 0 2 dsp_conjugate_at aNil (aCons (xD (wV 7)) (aCons (xD (wV 3)) aNil)))) aNil)))) aNil))) (xD (wB1 (oB bRepr) (aCons (xD (wLst (aCons (xD (wV 8)) (aCons (xD (wV 8)) aNil)))) aNil))))) (sRet (wC (.bool false))) sNil)))) (sSeq (sFor (iRg1 (aCons (xD (wC (.int 2))) aNil)) (gN 9) (sSeq (sAsg (wCall 2 dsp__law_room (aCons (xO 1) (aCons (xD (wV 4)) aNil))) (gsN 2 (gCons' (gN 10) (gCons' (gN 11) gNil')))) (sSeq (sSet 8 (wCall 3 dsp__law_due (aCons (xD (wV 3)) (aCons (xD (wV 10)) (aCons (xD (wV 11)) aNil))))) (sSeq (sSet 12 (wLst (aCons (xD (wCall 4 dsp__law_asked (aCons (xD (wV 3)) (aCons (xD (wV 10)) (aCons (xD (wV 11)) (aCons (xD (wC (.bool false))) aNil)))))) (aCons (xD (wCall 4 dsp__law_asked (aCons (xD (wV 3)) (aCons (xD (wV 10)) (aCons (xD (wV 11)) (aCons (xD (wC (.bool true))) aNil)))))) aNil)))) (sIf (wB (wO (oEq not) (xD (wB1 (oB bRepr) (aCons (xO 12) aNil))) (xD (wB1 (oB bRepr) (aCons (xD (wLst (aCons (xD (wV 8)) (aCons (xD (wV 8)) aNil)))) aNil))))) (sRet (wC (.bool false))) sNil))))) (sIf (wB (wO (oEq not) (xD (wB1 (oB bRepr) (aCons (xO 3) aNil))) (xO 5))) (sRet (wC (.bool false))) sNil)))))) (sRet (wC (.bool true)))))
def dsp_law : DSp := dspOf 13 w_law
theorem ok_law {P : Program} {w : World} {K : PySem.W.Frag} {mg : Str → Option Value} {base : Heap} {k : Nat} {f : Addr} {fd : FuncData} (G_conjugate_at : Cal P w K mg base (k) "conjugate_at" st_conjugate_at ["hill", "prices"] dsp_conjugate_at) (G__law_pot : Cal P w K mg base (k) "_law_pot" st__law_pot ["script"] dsp__law_pot) (G__law_hill : Cal P w K mg base (k) "_law_hill" st__law_hill ["pot", "most"] dsp__law_hill) (G__law_prices : Cal P w K mg base (k) "_law_prices" st__law_prices ["pot", "many", "far"] dsp__law_prices) (G__law_greatest : Cal P w K mg base (k) "_law_greatest" st__law_greatest ["hill", "prices"] dsp__law_greatest) (G__law_due : Cal P w K mg base (k) "_law_due" st__law_due ["hill", "low", "high"] dsp__law_due) (G__law_asked : Cal P w K mg base (k) "_law_asked" st__law_asked ["hill", "low", "high", "is_named"] dsp__law_asked) (G__law_room : Cal P w K mg base (k) "_law_room" st__law_room ["pot", "many"] dsp__law_room) (m_len : mg "len" = none) (m_range : mg "range" = none) (m_repr : mg "repr" = none)       (F : Fun K "law" "law" st_law f fd) : FnG P w K mg base (k + 1) f fd ["script"] (toSp K mg 1 dsp_law) :=
  fun_does F sc_law fun cdv A outer s H E C => (ss_cons (s_setN (i := 1) C.nd (by rfl) (by first | exact Or.inl rfl | exact Or.inr rfl) (d_call C G__law_pot (by rfl) bp__law_pot (a_cons (x_o (pv 0)) a_nil))) (ss_cons (s_for C.own C.calm (i_rg1 (l := false) (by rfl) m_range (a_cons (x_d d_int) a_nil)) (g_name (is := [2]) (i := 2) C.nd) (ss_cons (s_set (i := 3) C.nd (by rfl) (by first | exact Or.inl rfl | exact Or.inr rfl) (d_call C G__law_hill (by rfl) bp__law_hill (a_cons (x_o (pv 1)) (a_cons (x_d d_int) a_nil)))) (ss_cons (s_par (i := 4) (j := 5) C.calm C.nd (n_cons (d_fz (d_callB (bd_call bd_len) (by rfl) m_len boot_len (a_cons (x_d (d_ixA C.u1 (x_d (d_ixA C.u1 (x_o (pv 3)) (x_d d_int))) (x_d d_int))) a_nil))) (n_cons (d_fz (d_callB (bd_call (bd_repr C.gd C.u101)) (by rfl) m_repr boot_repr (a_cons (x_o (pv 3)) a_nil))) n_nil))) (ss_cons (s_for C.own C.calm (i_seq (l := false) (d_tup (a_cons (x_d d_int) (a_cons (x_d d_int) (a_cons (x_d d_int) a_nil))))) (g_name (is := [6]) (i := 6) C.nd) (ss_cons (s_set (i := 7) C.nd (by rfl) (by first | exact Or.inl rfl | exact Or.inr rfl) (d_call C G__law_prices (by rfl) bp__law_prices (a_cons (x_o (pv 1)) (a_cons (x_d (d_var (pv 4))) (a_cons (x_d (d_var (pv 6))) a_nil))))) (ss_cons (s_set (i := 8) C.nd (by rfl) (by first | exact Or.inl rfl | exact Or.inr rfl) (d_call C G__law_greatest (by rfl) bp__law_greatest (a_cons (x_d (d_var (pv 3))) (a_cons (x_d (d_var (pv 7))) a_nil)))) (ss_one (s_if (t_cmp (opd_ne C.u64) (x_d (d_callB (bd_call (bd_repr C.gd C.u101)) (by rfl) m_repr boot_repr (a_cons (x_d (d_lst (a_cons (x_d (d_call C G_conjugate_at (by rfl) bp_conjugate_at (a_cons (x_d (d_var (pv 3))) (a_cons (x_d (d_var (pv 7))) a_nil)))) (a_cons (x_d (d_callW (ks := ["prices", "hill"]) (is := [1, 0]) (m := 2) C G_conjugate_at (by rfl) (fun _ _ _ _ _ _ us zs hu hz => match us, zs, hu, hz with | [], [_, _], _, _ => rfl) (by rfl) (k_cons (x_d (d_var (pv 7))) (k_cons (x_d (d_var (pv 3))) k_nil)))) a_nil)))) a_nil))) (x_d (d_callB (bd_call (bd_repr C.gd C.u101)) (by rfl) m_repr boot_repr (a_cons (x_d (d_lst (a_cons (x_d (d_var (pv 8))) (a_cons (x_d (d_var (pv 8))) a_nil)))) a_nil)))) (ss_one (s_ret d_bl)) ss_nil))))) (ss_cons (s_for C.own C.calm (i_rg1 (l := false) (by rfl) m_range (a_cons (x_d d_int) a_nil)) (g_name (is := [9]) (i := 9) C.nd) (ss_cons (s_asg (d_call C G__law_room (by rfl) bp__law_room (a_cons (x_o (pv 1)) (a_cons (x_d (d_var (pv 4))) a_nil))) (g_tup (n := 2) C.calm (gs_cons (g_name (is := [10, 11]) (i := 10) C.nd) (gs_cons (g_name (is := [10, 11]) (i := 11) C.nd) gs_nil)))) (ss_cons (s_set (i := 8) C.nd (by rfl) (by first | exact Or.inl rfl | exact Or.inr rfl) (d_call C G__law_due (by rfl) bp__law_due (a_cons (x_d (d_var (pv 3))) (a_cons (x_d (d_var (pv 10))) (a_cons (x_d (d_var (pv 11))) a_nil))))) (ss_cons (s_set (i := 12) C.nd (by rfl) (by first | exact Or.inl rfl | exact Or.inr rfl) (d_lst (a_cons (x_d (d_call C G__law_asked (by rfl) bp__law_asked (a_cons (x_d (d_var (pv 3))) (a_cons (x_d (d_var (pv 10))) (a_cons (x_d (d_var (pv 11))) (a_cons (x_d d_bl) a_nil)))))) (a_cons (x_d (d_call C G__law_asked (by rfl) bp__law_asked (a_cons (x_d (d_var (pv 3))) (a_cons (x_d (d_var (pv 10))) (a_cons (x_d (d_var (pv 11))) (a_cons (x_d d_bl) a_nil)))))) a_nil)))) (ss_one (s_if (t_cmp (opd_ne C.u64) (x_d (d_callB (bd_call (bd_repr C.gd C.u101)) (by rfl) m_repr boot_repr (a_cons (x_o (pv 12)) a_nil))) (x_d (d_callB (bd_call (bd_repr C.gd C.u101)) (by rfl) m_repr boot_repr (a_cons (x_d (d_lst (a_cons (x_d (d_var (pv 8))) (a_cons (x_d (d_var (pv 8))) a_nil)))) a_nil)))) (ss_one (s_ret d_bl)) ss_nil)))))) (ss_one (s_if (t_cmp (opd_ne C.u64) (x_d (d_callB (bd_call (bd_repr C.gd C.u101)) (by rfl) m_repr boot_repr (a_cons (x_o (pv 3)) a_nil))) (x_o (pv 5))) (ss_one (s_ret d_bl)) ss_nil))))))) (ss_one (s_ret d_bl))))
theorem all_mk {l : PySem.W.OpenLaw} {w : World} {K : PySem.W.Frag} {h : Heap} {mg : Str → Option Value} {fa : Addr} (X : K.In h) (G : h.Ns mainGlobals mg) (hfa : mg "law" = some (.ref fa))
    {f0 f1 f2 f3 f4 f5 f6 f7 f8 f9 f10 f11 f12 f13 f14 f15 f16 f17 f18 f19 f20 f21 f22 f23 f24 : Addr} {od0 an0 od1 an1 od2 an2 od3 an3 od4 an4 od5 an5 od6 an6 od7 an7 od8 an8 od9 an9 od10 an10 od11 an11 od12 an12 od13 an13 od14 an14 od15 an15 od16 an16 od17 an17 od18 an18 od19 an19 od20 an20 od21 an21 od22 an22 od23 an23 od24 an24 : Option Addr} {sl0 sl1 sl2 sl3 sl4 sl5 sl6 sl7 sl8 sl9 sl10 sl11 sl12 sl13 sl14 sl15 sl16 sl17 sl18 sl19 sl20 sl21 sl22 sl23 sl24 : Array (Option Value)} {oc0 kV0 dc0 pm0 cd0 ct0 oc1 kV1 dc1 pm1 cd1 ct1 oc2 kV2 dc2 pm2 cd2 ct2 oc3 kV3 dc3 pm3 cd3 ct3 oc4 kV4 dc4 pm4 cd4 ct4 oc5 kV5 dc5 pm5 cd5 ct5 oc6 kV6 dc6 pm6 cd6 ct6 oc7 kV7 dc7 pm7 cd7 ct7 oc8 kV8 dc8 pm8 cd8 ct8 oc9 kV9 dc9 pm9 cd9 ct9 oc10 kV10 dc10 pm10 cd10 ct10 oc11 kV11 dc11 pm11 cd11 ct11 oc12 kV12 dc12 pm12 cd12 ct12 oc13 kV13 dc13 pm13 cd13 ct13 oc14 kV14 dc14 pm14 cd14 ct14 oc15 kV15 dc15 pm15 cd15 ct15 oc16 kV16 dc16 pm16 cd16 ct16 oc17 kV17 dc17 pm17 cd17 ct17 oc18 kV18 dc18 pm18 cd18 ct18 oc19 kV19 dc19 pm19 cd19 ct19 oc20 kV20 dc20 pm20 cd20 ct20 oc21 kV21 dc21 pm21 cd21 ct21 oc22 kV22 dc22 pm22 cd22 ct22 oc23 kV23 dc23 pm23 cd23 ct23 oc24 kV24 dc24 pm24 cd24 ct24 : Value}
    (a0 : PySem.W.nsIn K mainGlobals "times" = some (some (.ref f0))) (l0 : K.lookup f0 = some ⟨oc0, od0, .func (PySem.W.fnOf "times" "times" (defArgs st_times) (defBody st_times) (defScope st_times) .none kV0 dc0 pm0 an0 cd0 ct0), sl0⟩) (c0 : PySem.W.codeIn K cd0 "times" = true) (k0 : PySem.W.keepIn K (.ref f0) = true)
    (a1 : PySem.W.nsIn K mainGlobals "gain" = some (some (.ref f1))) (l1 : K.lookup f1 = some ⟨oc1, od1, .func (PySem.W.fnOf "gain" "gain" (defArgs st_gain) (defBody st_gain) (defScope st_gain) .none kV1 dc1 pm1 an1 cd1 ct1), sl1⟩) (c1 : PySem.W.codeIn K cd1 "gain" = true) (k1 : PySem.W.keepIn K (.ref f1) = true)
    (a2 : PySem.W.nsIn K mainGlobals "conjugate_at" = some (some (.ref f2))) (l2 : K.lookup f2 = some ⟨oc2, od2, .func (PySem.W.fnOf "conjugate_at" "conjugate_at" (defArgs st_conjugate_at) (defBody st_conjugate_at) (defScope st_conjugate_at) .none kV2 dc2 pm2 an2 cd2 ct2), sl2⟩) (c2 : PySem.W.codeIn K cd2 "conjugate_at" = true) (k2 : PySem.W.keepIn K (.ref f2) = true)
    (a3 : PySem.W.nsIn K mainGlobals "tables_between" = some (some (.ref f3))) (l3 : K.lookup f3 = some ⟨oc3, od3, .func (PySem.W.fnOf "tables_between" "tables_between" (defArgs st_tables_between) (defBody st_tables_between) (defScope st_tables_between) .none kV3 dc3 pm3 an3 cd3 ct3), sl3⟩) (c3 : PySem.W.codeIn K cd3 "tables_between" = true) (k3 : PySem.W.keepIn K (.ref f3) = true)
    (a4 : PySem.W.nsIn K mainGlobals "conjugate_hill" = some (some (.ref f4))) (l4 : K.lookup f4 = some ⟨oc4, od4, .func (PySem.W.fnOf "conjugate_hill" "conjugate_hill" (defArgs st_conjugate_hill) (defBody st_conjugate_hill) (defScope st_conjugate_hill) .none kV4 dc4 pm4 an4 cd4 ct4), sl4⟩) (c4 : PySem.W.codeIn K cd4 "conjugate_hill" = true) (k4 : PySem.W.keepIn K (.ref f4) = true)
    (a5 : PySem.W.nsIn K mainGlobals "_law_pot" = some (some (.ref f5))) (l5 : K.lookup f5 = some ⟨oc5, od5, .func (PySem.W.fnOf "_law_pot" "_law_pot" (defArgs st__law_pot) (defBody st__law_pot) (defScope st__law_pot) .none kV5 dc5 pm5 an5 cd5 ct5), sl5⟩) (c5 : PySem.W.codeIn K cd5 "_law_pot" = true) (k5 : PySem.W.keepIn K (.ref f5) = true)
    (a6 : PySem.W.nsIn K mainGlobals "_law_draw" = some (some (.ref f6))) (l6 : K.lookup f6 = some ⟨oc6, od6, .func (PySem.W.fnOf "_law_draw" "_law_draw" (defArgs st__law_draw) (defBody st__law_draw) (defScope st__law_draw) .none kV6 dc6 pm6 an6 cd6 ct6), sl6⟩) (c6 : PySem.W.codeIn K cd6 "_law_draw" = true) (k6 : PySem.W.keepIn K (.ref f6) = true)
    (a7 : PySem.W.nsIn K mainGlobals "_law_pick" = some (some (.ref f7))) (l7 : K.lookup f7 = some ⟨oc7, od7, .func (PySem.W.fnOf "_law_pick" "_law_pick" (defArgs st__law_pick) (defBody st__law_pick) (defScope st__law_pick) .none kV7 dc7 pm7 an7 cd7 ct7), sl7⟩) (c7 : PySem.W.codeIn K cd7 "_law_pick" = true) (k7 : PySem.W.keepIn K (.ref f7) = true)
    (a8 : PySem.W.nsIn K mainGlobals "_law_mixed" = some (some (.ref f8))) (l8 : K.lookup f8 = some ⟨oc8, od8, .func (PySem.W.fnOf "_law_mixed" "_law_mixed" (defArgs st__law_mixed) (defBody st__law_mixed) (defScope st__law_mixed) .none kV8 dc8 pm8 an8 cd8 ct8), sl8⟩) (c8 : PySem.W.codeIn K cd8 "_law_mixed" = true) (k8 : PySem.W.keepIn K (.ref f8) = true)
    (a9 : PySem.W.nsIn K mainGlobals "_law_box" = some (some (.ref f9))) (l9 : K.lookup f9 = some ⟨oc9, od9, .func (PySem.W.fnOf "_law_box" "_law_box" (defArgs st__law_box) (defBody st__law_box) (defScope st__law_box) .none kV9 dc9 pm9 an9 cd9 ct9), sl9⟩) (c9 : PySem.W.codeIn K cd9 "_law_box" = true) (k9 : PySem.W.keepIn K (.ref f9) = true)
    (a10 : PySem.W.nsIn K mainGlobals "_law_sides" = some (some (.ref f10))) (l10 : K.lookup f10 = some ⟨oc10, od10, .func (PySem.W.fnOf "_law_sides" "_law_sides" (defArgs st__law_sides) (defBody st__law_sides) (defScope st__law_sides) .none kV10 dc10 pm10 an10 cd10 ct10), sl10⟩) (c10 : PySem.W.codeIn K cd10 "_law_sides" = true) (k10 : PySem.W.keepIn K (.ref f10) = true)
    (a11 : PySem.W.nsIn K mainGlobals "_law_bend" = some (some (.ref f11))) (l11 : K.lookup f11 = some ⟨oc11, od11, .func (PySem.W.fnOf "_law_bend" "_law_bend" (defArgs st__law_bend) (defBody st__law_bend) (defScope st__law_bend) .none kV11 dc11 pm11 an11 cd11 ct11), sl11⟩) (c11 : PySem.W.codeIn K cd11 "_law_bend" = true) (k11 : PySem.W.keepIn K (.ref f11) = true)
    (a12 : PySem.W.nsIn K mainGlobals "_law_bent" = some (some (.ref f12))) (l12 : K.lookup f12 = some ⟨oc12, od12, .func (PySem.W.fnOf "_law_bent" "_law_bent" (defArgs st__law_bent) (defBody st__law_bent) (defScope st__law_bent) .none kV12 dc12 pm12 an12 cd12 ct12), sl12⟩) (c12 : PySem.W.codeIn K cd12 "_law_bent" = true) (k12 : PySem.W.keepIn K (.ref f12) = true)
    (a13 : PySem.W.nsIn K mainGlobals "_law_shift" = some (some (.ref f13))) (l13 : K.lookup f13 = some ⟨oc13, od13, .func (PySem.W.fnOf "_law_shift" "_law_shift" (defArgs st__law_shift) (defBody st__law_shift) (defScope st__law_shift) .none kV13 dc13 pm13 an13 cd13 ct13), sl13⟩) (c13 : PySem.W.codeIn K cd13 "_law_shift" = true) (k13 : PySem.W.keepIn K (.ref f13) = true)
    (a14 : PySem.W.nsIn K mainGlobals "_law_l_hill" = some (some (.ref f14))) (l14 : K.lookup f14 = some ⟨oc14, od14, .func (PySem.W.fnOf "_law_l_hill" "_law_l_hill" (defArgs st__law_l_hill) (defBody st__law_l_hill) (defScope st__law_l_hill) .none kV14 dc14 pm14 an14 cd14 ct14), sl14⟩) (c14 : PySem.W.codeIn K cd14 "_law_l_hill" = true) (k14 : PySem.W.keepIn K (.ref f14) = true)
    (a15 : PySem.W.nsIn K mainGlobals "_law_m_hill" = some (some (.ref f15))) (l15 : K.lookup f15 = some ⟨oc15, od15, .func (PySem.W.fnOf "_law_m_hill" "_law_m_hill" (defArgs st__law_m_hill) (defBody st__law_m_hill) (defScope st__law_m_hill) .none kV15 dc15 pm15 an15 cd15 ct15), sl15⟩) (c15 : PySem.W.codeIn K cd15 "_law_m_hill" = true) (k15 : PySem.W.keepIn K (.ref f15) = true)
    (a16 : PySem.W.nsIn K mainGlobals "_law_any_hill" = some (some (.ref f16))) (l16 : K.lookup f16 = some ⟨oc16, od16, .func (PySem.W.fnOf "_law_any_hill" "_law_any_hill" (defArgs st__law_any_hill) (defBody st__law_any_hill) (defScope st__law_any_hill) .none kV16 dc16 pm16 an16 cd16 ct16), sl16⟩) (c16 : PySem.W.codeIn K cd16 "_law_any_hill" = true) (k16 : PySem.W.keepIn K (.ref f16) = true)
    (a17 : PySem.W.nsIn K mainGlobals "_law_hill" = some (some (.ref f17))) (l17 : K.lookup f17 = some ⟨oc17, od17, .func (PySem.W.fnOf "_law_hill" "_law_hill" (defArgs st__law_hill) (defBody st__law_hill) (defScope st__law_hill) .none kV17 dc17 pm17 an17 cd17 ct17), sl17⟩) (c17 : PySem.W.codeIn K cd17 "_law_hill" = true) (k17 : PySem.W.keepIn K (.ref f17) = true)
    (a18 : PySem.W.nsIn K mainGlobals "_law_times" = some (some (.ref f18))) (l18 : K.lookup f18 = some ⟨oc18, od18, .func (PySem.W.fnOf "_law_times" "_law_times" (defArgs st__law_times) (defBody st__law_times) (defScope st__law_times) .none kV18 dc18 pm18 an18 cd18 ct18), sl18⟩) (c18 : PySem.W.codeIn K cd18 "_law_times" = true) (k18 : PySem.W.keepIn K (.ref f18) = true)
    (a19 : PySem.W.nsIn K mainGlobals "_law_prices" = some (some (.ref f19))) (l19 : K.lookup f19 = some ⟨oc19, od19, .func (PySem.W.fnOf "_law_prices" "_law_prices" (defArgs st__law_prices) (defBody st__law_prices) (defScope st__law_prices) .none kV19 dc19 pm19 an19 cd19 ct19), sl19⟩) (c19 : PySem.W.codeIn K cd19 "_law_prices" = true) (k19 : PySem.W.keepIn K (.ref f19) = true)
    (a20 : PySem.W.nsIn K mainGlobals "_law_greatest" = some (some (.ref f20))) (l20 : K.lookup f20 = some ⟨oc20, od20, .func (PySem.W.fnOf "_law_greatest" "_law_greatest" (defArgs st__law_greatest) (defBody st__law_greatest) (defScope st__law_greatest) .none kV20 dc20 pm20 an20 cd20 ct20), sl20⟩) (c20 : PySem.W.codeIn K cd20 "_law_greatest" = true) (k20 : PySem.W.keepIn K (.ref f20) = true)
    (a21 : PySem.W.nsIn K mainGlobals "_law_due" = some (some (.ref f21))) (l21 : K.lookup f21 = some ⟨oc21, od21, .func (PySem.W.fnOf "_law_due" "_law_due" (defArgs st__law_due) (defBody st__law_due) (defScope st__law_due) .none kV21 dc21 pm21 an21 cd21 ct21), sl21⟩) (c21 : PySem.W.codeIn K cd21 "_law_due" = true) (k21 : PySem.W.keepIn K (.ref f21) = true)
    (a22 : PySem.W.nsIn K mainGlobals "_law_asked" = some (some (.ref f22))) (l22 : K.lookup f22 = some ⟨oc22, od22, .func (PySem.W.fnOf "_law_asked" "_law_asked" (defArgs st__law_asked) (defBody st__law_asked) (defScope st__law_asked) .none kV22 dc22 pm22 an22 cd22 ct22), sl22⟩) (c22 : PySem.W.codeIn K cd22 "_law_asked" = true) (k22 : PySem.W.keepIn K (.ref f22) = true)
    (a23 : PySem.W.nsIn K mainGlobals "_law_room" = some (some (.ref f23))) (l23 : K.lookup f23 = some ⟨oc23, od23, .func (PySem.W.fnOf "_law_room" "_law_room" (defArgs st__law_room) (defBody st__law_room) (defScope st__law_room) .none kV23 dc23 pm23 an23 cd23 ct23), sl23⟩) (c23 : PySem.W.codeIn K cd23 "_law_room" = true) (k23 : PySem.W.keepIn K (.ref f23) = true)
    (a24 : PySem.W.nsIn K mainGlobals "law" = some (some (.ref f24))) (l24 : K.lookup f24 = some ⟨oc24, od24, .func (PySem.W.fnOf "law" "law" (defArgs st_law) (defBody st_law) (defScope st_law) .none kV24 dc24 pm24 an24 cd24 ct24), sl24⟩) (c24 : PySem.W.codeIn K cd24 "law" = true) (k24 : PySem.W.keepIn K (.ref f24) = true)
    (z_abs : PySem.W.nsIn K mainGlobals "abs" = some none)
    (z_all : PySem.W.nsIn K mainGlobals "all" = some none)
    (z_int : PySem.W.nsIn K mainGlobals "int" = some none)
    (z_isinstance : PySem.W.nsIn K mainGlobals "isinstance" = some none)
    (z_len : PySem.W.nsIn K mainGlobals "len" = some none)
    (z_list : PySem.W.nsIn K mainGlobals "list" = some none)
    (z_max : PySem.W.nsIn K mainGlobals "max" = some none)
    (z_min : PySem.W.nsIn K mainGlobals "min" = some none)
    (z_range : PySem.W.nsIn K mainGlobals "range" = some none)
    (z_repr : PySem.W.nsIn K mainGlobals "repr" = some none)
    (z_sum : PySem.W.nsIn K mainGlobals "sum" = some none)
    (z_tuple : PySem.W.nsIn K mainGlobals "tuple" = some none)
    (z_zip : PySem.W.nsIn K mainGlobals "zip" = some none)
    {tk_MAX_POINTS : Tok} (y_MAX_POINTS : PySem.W.nsIn K mainGlobals "MAX_POINTS" = some (some (.int 50 tk_MAX_POINTS)))
    {tk_MAX_WORTH : Tok} (y_MAX_WORTH : PySem.W.nsIn K mainGlobals "MAX_WORTH" = some (some (.int 1000 tk_MAX_WORTH)))
    {C_HillError : Addr} (a_HillError : PySem.W.nsIn K mainGlobals "HillError" = some (some (.ref C_HillError)))
    {C_TooMany : Addr} (a_TooMany : PySem.W.nsIn K mainGlobals "TooMany" = some (some (.ref C_TooMany)))
    (z_super : PySem.W.nsIn K mainGlobals "super" = some none)
    (top_ : (l.prog.main.scope.names.lookup ("super" : Str)).isSome = false)
    {nm_TooMany q_TooMany : Str} {N_TooMany : Addr} {bs_TooMany bm_TooMany sub_TooMany : List Value} {sn_TooMany : List Str} {ab_TooMany : Bool} {col_TooMany : Option Bool} {dd_TooMany : Option Addr} {k0_TooMany k1_TooMany k2_TooMany k3_TooMany k5_TooMany : Option Value} (lC_TooMany : K.lookup C_TooMany = some (excClassObj nm_TooMany q_TooMany C_TooMany N_TooMany bs_TooMany bm_TooMany true sn_TooMany sub_TooMany ab_TooMany col_TooMany dd_TooMany k0_TooMany k1_TooMany k2_TooMany k3_TooMany k5_TooMany "ValueError.__new__")) (hb_TooMany : PySem.HandSPX.refsVE bm_TooMany = true)
    {fI_TooMany : Addr} (iC_TooMany : PySem.W.findIn K (.ref C_TooMany) "__init__" = some (some (.ref fI_TooMany))) (cI_TooMany : ClsI K C_TooMany fI_TooMany)
    {oc_TooMany kV_TooMany doc_TooMany pm_TooMany ct_TooMany : Value} {an_TooMany od_TooMany : Option Addr} {cda_TooMany cc_TooMany : Addr} {osl_TooMany : Array (Option Value)} (lf_TooMany : K.lookup fI_TooMany = some ⟨oc_TooMany, od_TooMany, .func (sfn si_TooMany "TooMany.__init__" kV_TooMany doc_TooMany pm_TooMany ct_TooMany an_TooMany cda_TooMany cc_TooMany), osl_TooMany⟩) (hcd_TooMany : PySem.W.codeIn K (.ref cda_TooMany) "TooMany.__init__" = true)
    {ccl_TooMany : Value} {cdd_TooMany : Option Addr} {vs_TooMany : Array Value} {ccs_TooMany : Array (Option Value)} {file_TooMany : Str} {tf_TooMany : Tok} (lc_TooMany : K.lookup cda_TooMany = some ⟨ccl_TooMany, cdd_TooMany, .fields vs_TooMany, ccs_TooMany⟩) (hv_TooMany : vs_TooMany[2]? = some (.str file_TooMany tf_TooMany)) (hfl_TooMany : ((l.prog.main.file : Str) == file_TooMany) = true) {cl_TooMany : Value} {cld_TooMany : Option Addr} {csl_TooMany : Array (Option Value)} (lcc_TooMany : K.lookup cc_TooMany = some ⟨cl_TooMany, cld_TooMany, .cell (some (.ref C_TooMany)), csl_TooMany⟩)
    (hno_TooMany : PySem.W.findIn K (.ref C_TooMany) "limit" = some none)
    (e1_TooMany : PySem.W.subIn K (.ref C_TooMany) (.type "BaseException") = some true) (e2_TooMany : PySem.W.hasDictIn K C_TooMany = true) (e3_TooMany : PySem.W.typeIn K (.ref C_TooMany) = some (.type "type"))
    (e_TooMany_TooMany : PySem.W.subIn K (.ref C_TooMany) (.ref C_TooMany) = some true)
    (xf_TooMany : XfC K C_TooMany)
    (xc_TooMany : ExcC K C_TooMany)
    (ki_TooMany_HillError : PySem.W.kitOne K (.ref C_TooMany) (.ref C_HillError) = some true)
    : ∃ fd : FuncData, (∀ (s : Shared) (v : Value), BindsTo s fd ⟨[v], []⟩ [("script", v)]) ∧ ∀ base : Heap, K.In base → base.Ns mainGlobals mg → FnG l.prog w K mg base 6 fa fd ["script"] (toSp K mg 1 dsp_law) := by
  have m_abs := PySem.W.mg_none_of X G z_abs
  have m_all := PySem.W.mg_none_of X G z_all
  have m_int := PySem.W.mg_none_of X G z_int
  have m_isinstance := PySem.W.mg_none_of X G z_isinstance
  have m_len := PySem.W.mg_none_of X G z_len
  have m_list := PySem.W.mg_none_of X G z_list
  have m_max := PySem.W.mg_none_of X G z_max
  have m_min := PySem.W.mg_none_of X G z_min
  have m_range := PySem.W.mg_none_of X G z_range
  have m_repr := PySem.W.mg_none_of X G z_repr
  have m_sum := PySem.W.mg_none_of X G z_sum
  have m_tuple := PySem.W.mg_none_of X G z_tuple
  have m_zip := PySem.W.mg_none_of X G z_zip
  have g_MAX_POINTS : ∃ t, mg "MAX_POINTS" = some (.int 50 t) := ⟨_, PySem.W.mg_of X G y_MAX_POINTS⟩
  have g_MAX_WORTH : ∃ t, mg "MAX_WORTH" = some (.int 1000 t) := ⟨_, PySem.W.mg_of X G y_MAX_WORTH⟩
  have T_TooMany : ExK1 l.prog w K mg "TooMany" "limit" := exK1_mk X G a_TooMany z_super it_TooMany hno_TooMany lC_TooMany hb_TooMany cI_TooMany lf_TooMany hcd_TooMany lc_TooMany hv_TooMany hfl_TooMany lcc_TooMany top_
  have X_TooMany : ExTab K mg "TooMany" tabX_TooMany := exTab_mk X G a_TooMany (List.forall_mem_cons.mpr ⟨⟨_, a_TooMany, exm_mk e1_TooMany e2_TooMany e3_TooMany e_TooMany_TooMany⟩, fun _ h => nomatch h⟩)
  have XF_TooMany : ∃ C, mg "TooMany" = some (.ref C) ∧ XfC K C ∧ PySem.W.findIn K (.ref C) "limit" = some none := ⟨_, PySem.W.mg_of X G a_TooMany, xf_TooMany, hno_TooMany⟩
  have I_TooMany_HillError : IsTab K mg "HillError" tabI_TooMany_HillError := isTab_mk X G a_HillError (List.forall_mem_cons.mpr ⟨⟨_, a_TooMany, xc_TooMany, ki_TooMany_HillError⟩, fun _ h => nomatch h⟩)
  have G_times : ∀ base, Cal l.prog w K mg base 1 "times" st_times ["prices", "point"] dsp_times := fun base => cal_mk X G a0 l0 c0 k0 (fun F => ok_times (k := 0)  m_sum m_zip       F)
  have G_gain : ∀ base, Cal l.prog w K mg base 2 "gain" st_gain ["prices", "pair"] dsp_gain := fun base => cal_mk X G a1 l1 c1 k1 (fun F => ok_gain (k := 1) ((G_times base).mono (by decide))        F)
  have G_conjugate_at : ∀ base, Cal l.prog w K mg base 3 "conjugate_at" st_conjugate_at ["hill", "prices"] dsp_conjugate_at := fun base => cal_mk X G a2 l2 c2 k2 (fun F => ok_conjugate_at (k := 2) ((G_gain base).mono (by decide)) m_max       F)
  have G_tables_between : ∀ base, Cal l.prog w K mg base 3 "tables_between" st_tables_between ["low", "high", "most"] dsp_tables_between := fun base => cal_mk X G a3 l3 c3 k3 (fun F => ok_tables_between (k := 0)  m_range m_zip   T_TooMany    F)
  have G_conjugate_hill : ∀ base, Cal l.prog w K mg base 4 "conjugate_hill" st_conjugate_hill ["hill", "low", "high"] dsp_conjugate_hill := fun base => cal_mk X G a4 l4 c4 k4 (fun F => ok_conjugate_hill (k := 1) ((G_conjugate_at base).mono (by decide)) ((G_tables_between base).mono (by decide)) m_all m_tuple g_MAX_POINTS g_MAX_WORTH  T_TooMany    F)
  have G__law_pot : ∀ base, Cal l.prog w K mg base 1 "_law_pot" st__law_pot ["script"] dsp__law_pot := fun base => cal_mk X G a5 l5 c5 k5 (fun F => ok__law_pot (k := 0)  m_abs m_int m_len       F)
  have G__law_draw : ∀ base, Cal l.prog w K mg base 1 "_law_draw" st__law_draw ["pot", "many"] dsp__law_draw := fun base => cal_mk X G a6 l6 c6 k6 (fun F => ok__law_draw (k := 0)  m_int       F)
  have G__law_pick : ∀ base, Cal l.prog w K mg base 2 "_law_pick" st__law_pick ["pot", "row"] dsp__law_pick := fun base => cal_mk X G a7 l7 c7 k7 (fun F => ok__law_pick (k := 1) ((G__law_draw base).mono (by decide)) m_len       F)
  have G__law_mixed : ∀ base, Cal l.prog w K mg base 2 "_law_mixed" st__law_mixed ["pot", "row"] dsp__law_mixed := fun base => cal_mk X G a8 l8 c8 k8 (fun F => ok__law_mixed (k := 1) ((G__law_draw base).mono (by decide)) m_len m_list m_range       F)
  have G__law_box : ∀ base, Cal l.prog w K mg base 1 "_law_box" st__law_box ["low", "high"] dsp__law_box := fun base => cal_mk X G a9 l9 c9 k9 (fun F => ok__law_box (k := 0)  m_range m_zip       F)
  have G__law_sides : ∀ base, Cal l.prog w K mg base 3 "_law_sides" st__law_sides ["pot", "most"] dsp__law_sides := fun base => cal_mk X G a10 l10 c10 k10 (fun F => ok__law_sides (k := 2) ((G__law_draw base).mono (by decide)) ((G__law_pick base).mono (by decide)) m_range       F)
  have G__law_bend : ∀ base, Cal l.prog w K mg base 2 "_law_bend" st__law_bend ["pot", "depth"] dsp__law_bend := fun base => cal_mk X G a11 l11 c11 k11 (fun F => ok__law_bend (k := 1) ((G__law_draw base).mono (by decide))        F)
  have G__law_bent : ∀ base, Cal l.prog w K mg base 1 "_law_bent" st__law_bent ["bend", "x"] dsp__law_bent := fun base => cal_mk X G a12 l12 c12 k12 (fun F => ok__law_bent (k := 0)         F)
  have G__law_shift : ∀ base, Cal l.prog w K mg base 3 "_law_shift" st__law_shift ["pot", "hill"] dsp__law_shift := fun base => cal_mk X G a13 l13 c13 k13 (fun F => ok__law_shift (k := 2) ((G__law_draw base).mono (by decide)) ((G__law_pick base).mono (by decide)) m_len m_max m_min m_range m_tuple m_zip       F)
  have G__law_l_hill : ∀ base, Cal l.prog w K mg base 4 "_law_l_hill" st__law_l_hill ["pot", "most"] dsp__law_l_hill := fun base => cal_mk X G a14 l14 c14 k14 (fun F => ok__law_l_hill (k := 3) ((G__law_draw base).mono (by decide)) ((G__law_box base).mono (by decide)) ((G__law_sides base).mono (by decide)) ((G__law_bend base).mono (by decide)) ((G__law_bent base).mono (by decide)) ((G__law_shift base).mono (by decide)) m_len m_range m_sum m_zip       F)
  have G__law_m_hill : ∀ base, Cal l.prog w K mg base 4 "_law_m_hill" st__law_m_hill ["pot", "most"] dsp__law_m_hill := fun base => cal_mk X G a15 l15 c15 k15 (fun F => ok__law_m_hill (k := 3) ((G__law_draw base).mono (by decide)) ((G__law_pick base).mono (by decide)) ((G__law_mixed base).mono (by decide)) ((G__law_box base).mono (by decide)) ((G__law_sides base).mono (by decide)) ((G__law_bend base).mono (by decide)) ((G__law_bent base).mono (by decide)) ((G__law_shift base).mono (by decide)) m_len m_list m_max m_range m_sum m_zip       F)
  have G__law_any_hill : ∀ base, Cal l.prog w K mg base 4 "_law_any_hill" st__law_any_hill ["pot", "most"] dsp__law_any_hill := fun base => cal_mk X G a16 l16 c16 k16 (fun F => ok__law_any_hill (k := 3) ((G__law_draw base).mono (by decide)) ((G__law_pick base).mono (by decide)) ((G__law_box base).mono (by decide)) ((G__law_sides base).mono (by decide)) ((G__law_shift base).mono (by decide)) m_len       F)
  have G__law_hill : ∀ base, Cal l.prog w K mg base 5 "_law_hill" st__law_hill ["pot", "most"] dsp__law_hill := fun base => cal_mk X G a17 l17 c17 k17 (fun F => ok__law_hill (k := 4) ((G__law_draw base).mono (by decide)) ((G__law_l_hill base).mono (by decide)) ((G__law_m_hill base).mono (by decide)) ((G__law_any_hill base).mono (by decide))        F)
  have G__law_times : ∀ base, Cal l.prog w K mg base 1 "_law_times" st__law_times ["prices", "point"] dsp__law_times := fun base => cal_mk X G a18 l18 c18 k18 (fun F => ok__law_times (k := 0)  m_sum m_zip       F)
  have G__law_prices : ∀ base, Cal l.prog w K mg base 2 "_law_prices" st__law_prices ["pot", "many", "far"] dsp__law_prices := fun base => cal_mk X G a19 l19 c19 k19 (fun F => ok__law_prices (k := 1) ((G__law_draw base).mono (by decide)) m_range m_tuple       F)
  have G__law_greatest : ∀ base, Cal l.prog w K mg base 2 "_law_greatest" st__law_greatest ["hill", "prices"] dsp__law_greatest := fun base => cal_mk X G a20 l20 c20 k20 (fun F => ok__law_greatest (k := 1) ((G__law_times base).mono (by decide)) m_max       F)
  have G__law_due : ∀ base, Cal l.prog w K mg base 3 "_law_due" st__law_due ["hill", "low", "high"] dsp__law_due := fun base => cal_mk X G a21 l21 c21 k21 (fun F => ok__law_due (k := 2) ((G__law_box base).mono (by decide)) ((G__law_greatest base).mono (by decide)) m_tuple m_zip       F)
  have G__law_asked : ∀ base, Cal l.prog w K mg base 5 "_law_asked" st__law_asked ["hill", "low", "high", "is_named"] dsp__law_asked := fun base => cal_mk X G a22 l22 c22 k22 (fun F => ok__law_asked (k := 4) ((G_conjugate_hill base).mono (by decide)) m_isinstance    X_TooMany XF_TooMany I_TooMany_HillError F)
  have G__law_room : ∀ base, Cal l.prog w K mg base 3 "_law_room" st__law_room ["pot", "many"] dsp__law_room := fun base => cal_mk X G a23 l23 c23 k23 (fun F => ok__law_room (k := 2) ((G__law_draw base).mono (by decide)) ((G__law_pick base).mono (by decide)) m_max m_min m_range m_tuple       F)
  have e := hfa.symm.trans (PySem.W.mg_of X G a24)
  cases e
  exact ⟨_, fun s v => .of_eq rfl, fun base _ _ => ok_law (k := 5) ((G_conjugate_at base).mono (by decide)) ((G__law_pot base).mono (by decide)) ((G__law_hill base).mono (by decide)) ((G__law_prices base).mono (by decide)) ((G__law_greatest base).mono (by decide)) ((G__law_due base).mono (by decide)) ((G__law_asked base).mono (by decide)) ((G__law_room base).mono (by decide)) m_len m_range m_repr       (fun_mk (st := st_law) l24 c24 k24)⟩
end K22
namespace K22
open PySem PySem.Spec PyProof.Rows L2 DL
local macro_rules | `(tactic| walk_at "dl") => `(tactic| simp only [DL.iKeyN, DL.wGtN, DL.wSI, DL.vN, DL.isDN, DL.iItm, DL.wDsT, DL.wDg1, DL.wDg2, wIsa, PyData.isInt, PyData.isBool, PyData.isTuple, PyData.isList, PyData.isStr, PyData.isDict, wInG, wLrg, wTrg, DL.r1, DL.r2, wD0, wRvA, bSum, bAny, bAll, sSeq, sNil, sSet, sSetN, sRet, sRetN, sExp, sIf, sAsg, sPar, setN, sFor, sBrk, sCnt, wC, wV, wM, wF, wO, wU, wB, wTr, tru, bD, wB1, oB, lks, lkD, lkN, asD, xD, xO, aCons, aNil, nsNil, nsCons, datas, wTup, wLst, wLc, wYes, wAnd, wOr, wNot, wIf, vAnd, vOr, vNot, wMt, wSl, wRv, wCh, wPotL, wScrLen, wScrTo, scrD, pNo, pSo, iSq, seqD, iRg1, iRg2, iRg3, iEn, DL.iZip, DL.iZip3, iRv, hasT, notP_0, notP_s, npS_lo, npS_e, npS_v, vsOk_nil, vsOk_cons, vokS_lo, vokS_e, vokS_v, vokS_n, gN, gNil', gCons', gsN, gSb, ownL, putL, mApp, mExt, mPop, mPopAt, mIns, mRev, mClr, bTup, bLen, bLst, bInt, bAbs, bMn2, bMx2, oIx, oIxA, oInA, isDct, isLst, oCat, oMul, oI, oI0, bI, oLt, oLe, oGt, oGe, oEq, oIn, oIs, oNeg, wCall, wCallK, sel, lentI, argE, argS, backE, mrg, wipeE, restE, wIxG, wIdx, idxD, sRs0, sRs1, sTryA, DL.sTryX, DL.wXi, sTryO, wXf, retD, gSbA, ownN, ownN', putN, DL.stN, id, Int.toNat_natCast, decide_eq_true_eq, beq_self_eq_true, Bool.not_true, Bool.not_false, beq_iff_eq,
  List.length_cons, List.length_nil, Nat.reduceAdd, Nat.reduceSub, Nat.reduceMul, List.replicate, List.cons_append, List.nil_append, List.append_nil, List.getElem?_cons_zero, List.getElem?_cons_succ, List.getElem?_nil, List.set_cons_zero, List.set_cons_succ, List.filterMap_cons, List.filterMap_nil, List.map_cons, List.map_nil, List.nodup_cons, List.nodup_nil, List.mem_cons, List.not_mem_nil, Option.map_some, and_true, true_and, and_self, not_false_eq_true, or_false, false_or, if_true, if_false, Bool.false_eq_true, List.length_map, Int.toNat_natCast, atD0, atD1, atD2, cut_to, cut_from, ne_eq, reduceCtorEq, List.length_append, List.length_take, List.length_drop, List.length_range, List.length_reverse])
local macro_rules | `(tactic| walk_at "oks") => `(tactic| first | exact okS.e | exact okS.v | exact okS.lo | assumption)
local macro_rules | `(tactic| walk_at "frm") => `(tactic| first | exact ⟨_, by walk_at "oks", rfl⟩ | exact ⟨_, _, by walk_at "oks", by walk_at "oks", rfl⟩ | exact ⟨_, _, _, by walk_at "oks", by walk_at "oks", by walk_at "oks", rfl⟩ | exact ⟨_, _, _, _, by walk_at "oks", by walk_at "oks", by walk_at "oks", by walk_at "oks", rfl⟩ | exact ⟨_, _, _, _, _, by walk_at "oks", by walk_at "oks", by walk_at "oks", by walk_at "oks", by walk_at "oks", rfl⟩ | exact ⟨_, _, _, _, _, _, by walk_at "oks", by walk_at "oks", by walk_at "oks", by walk_at "oks", by walk_at "oks", by walk_at "oks", rfl⟩ | exact ⟨_, _, _, _, _, _, _, by walk_at "oks", by walk_at "oks", by walk_at "oks", by walk_at "oks", by walk_at "oks", by walk_at "oks", by walk_at "oks", rfl⟩ | exact ⟨_, _, _, _, _, _, _, _, by walk_at "oks", by walk_at "oks", by walk_at "oks", by walk_at "oks", by walk_at "oks", by walk_at "oks", by walk_at "oks", by walk_at "oks", rfl⟩ | exact ⟨_, _, _, _, _, _, _, _, _, by walk_at "oks", by walk_at "oks", by walk_at "oks", by walk_at "oks", by walk_at "oks", by walk_at "oks", by walk_at "oks", by walk_at "oks", by walk_at "oks", rfl⟩ | exact ⟨_, _, _, _, _, _, _, _, _, _, by walk_at "oks", by walk_at "oks", by walk_at "oks", by walk_at "oks", by walk_at "oks", by walk_at "oks", by walk_at "oks", by walk_at "oks", by walk_at "oks", by walk_at "oks", rfl⟩ | exact ⟨_, _, _, _, _, _, _, _, _, _, _, by walk_at "oks", by walk_at "oks", by walk_at "oks", by walk_at "oks", by walk_at "oks", by walk_at "oks", by walk_at "oks", by walk_at "oks", by walk_at "oks", by walk_at "oks", by walk_at "oks", rfl⟩ | exact ⟨_, _, _, _, _, _, _, _, _, _, _, _, by walk_at "oks", by walk_at "oks", by walk_at "oks", by walk_at "oks", by walk_at "oks", by walk_at "oks", by walk_at "oks", by walk_at "oks", by walk_at "oks", by walk_at "oks", by walk_at "oks", by walk_at "oks", rfl⟩ | exact ⟨_, _, _, _, _, _, _, _, _, _, _, _, _, by walk_at "oks", by walk_at "oks", by walk_at "oks", by walk_at "oks", by walk_at "oks", by walk_at "oks", by walk_at "oks", by walk_at "oks", by walk_at "oks", by walk_at "oks", by walk_at "oks", by walk_at "oks", by walk_at "oks", rfl⟩ | exact ⟨_, _, _, _, _, _, _, _, _, _, _, _, _, _, by walk_at "oks", by walk_at "oks", by walk_at "oks", by walk_at "oks", by walk_at "oks", by walk_at "oks", by walk_at "oks", by walk_at "oks", by walk_at "oks", by walk_at "oks", by walk_at "oks", by walk_at "oks", by walk_at "oks", by walk_at "oks", rfl⟩ | exact ⟨_, _, _, _, _, _, _, _, _, _, _, _, _, _, _, by walk_at "oks", by walk_at "oks", by walk_at "oks", by walk_at "oks", by walk_at "oks", by walk_at "oks", by walk_at "oks", by walk_at "oks", by walk_at "oks", by walk_at "oks", by walk_at "oks", by walk_at "oks", by walk_at "oks", by walk_at "oks", by walk_at "oks", rfl⟩ | exact ⟨_, _, _, _, _, _, _, _, _, _, _, _, _, _, _, _, by walk_at "oks", by walk_at "oks", by walk_at "oks", by walk_at "oks", by walk_at "oks", by walk_at "oks", by walk_at "oks", by walk_at "oks", by walk_at "oks", by walk_at "oks", by walk_at "oks", by walk_at "oks", by walk_at "oks", by walk_at "oks", by walk_at "oks", by walk_at "oks", rfl⟩ | exact rfl)
local macro_rules | `(tactic| walk_at "side") => `(tactic| first | omega | assumption | decide | exact rfl | (first | unfold CPow | unfold CMul | unfold CDiv) <;> omega | (with_reducible refine And.intro ?_ ?_ <;> first | omega | assumption | decide | exact rfl | (with_reducible refine And.intro ?_ ?_ <;> first | omega | assumption | decide | exact rfl)))
local macro_rules | `(tactic| walk_at "rd") => `(tactic| fail "no road")
set_option hygiene false in
local macro_rules | `(tactic| walk_at "vc1") => `(tactic| first
  | with_reducible refine seq_step fun K hK => ?_
  | with_reducible refine gN_seq (by walk_at "dl") (by simp only [List.set_cons_succ, List.set_cons_zero]; rfl) ?_
  | with_reducible refine gs2_seq (by walk_at "dl") (by walk_at "dl") (by simp only [List.set_cons_succ, List.set_cons_zero]; rfl) ?_
  | with_reducible refine if_step fun Ka Kb hKa hKb => ?_
  | with_reducible refine for_step fun Kl hKl => ?_
  | with_reducible refine ints_step ?_
  | walk_at "rd"
  | (with_reducible refine And.intro ?_ ?_; focus walk_at "side")
  | walk_at "dl"
  | (with_reducible refine hK _ ?_; clear hK; try clear K)
  | (with_reducible refine hKa _ ?_; clear hKa)
  | (with_reducible refine hKb _ ?_; clear hKb))
local macro_rules | `(tactic| walk_at "vc") => `(tactic| repeat walk_at "vc1")
set_option hygiene false in
local macro_rules | `(tactic| walk_at "opn") => `(tactic| first
  | obtain ⟨_, ⟨o1, rfl⟩, rfl⟩ := hP
  | obtain ⟨_, _, ⟨o1, rfl⟩, ⟨o2, rfl⟩, rfl⟩ := hP
  | obtain ⟨_, _, _, ⟨o1, rfl⟩, ⟨o2, rfl⟩, ⟨o3, rfl⟩, rfl⟩ := hP
  | obtain ⟨_, _, _, _, ⟨o1, rfl⟩, ⟨o2, rfl⟩, ⟨o3, rfl⟩, ⟨o4, rfl⟩, rfl⟩ := hP
  | obtain ⟨_, _, _, _, _, ⟨o1, rfl⟩, ⟨o2, rfl⟩, ⟨o3, rfl⟩, ⟨o4, rfl⟩, ⟨o5, rfl⟩, rfl⟩ := hP
  | obtain ⟨_, _, _, _, _, _, ⟨o1, rfl⟩, ⟨o2, rfl⟩, ⟨o3, rfl⟩, ⟨o4, rfl⟩, ⟨o5, rfl⟩, ⟨o6, rfl⟩, rfl⟩ := hP
  | obtain ⟨_, _, _, _, _, _, _, ⟨o1, rfl⟩, ⟨o2, rfl⟩, ⟨o3, rfl⟩, ⟨o4, rfl⟩, ⟨o5, rfl⟩, ⟨o6, rfl⟩, ⟨o7, rfl⟩, rfl⟩ := hP
  | obtain ⟨_, _, _, _, _, _, _, _, ⟨o1, rfl⟩, ⟨o2, rfl⟩, ⟨o3, rfl⟩, ⟨o4, rfl⟩, ⟨o5, rfl⟩, ⟨o6, rfl⟩, ⟨o7, rfl⟩, ⟨o8, rfl⟩, rfl⟩ := hP
  | obtain ⟨_, _, _, _, _, _, _, _, _, ⟨o1, rfl⟩, ⟨o2, rfl⟩, ⟨o3, rfl⟩, ⟨o4, rfl⟩, ⟨o5, rfl⟩, ⟨o6, rfl⟩, ⟨o7, rfl⟩, ⟨o8, rfl⟩, ⟨o9, rfl⟩, rfl⟩ := hP
  | obtain ⟨_, _, _, _, _, _, _, _, _, _, ⟨o1, rfl⟩, ⟨o2, rfl⟩, ⟨o3, rfl⟩, ⟨o4, rfl⟩, ⟨o5, rfl⟩, ⟨o6, rfl⟩, ⟨o7, rfl⟩, ⟨o8, rfl⟩, ⟨o9, rfl⟩, ⟨o10, rfl⟩, rfl⟩ := hP
  | obtain ⟨_, _, _, _, _, _, _, _, _, _, _, ⟨o1, rfl⟩, ⟨o2, rfl⟩, ⟨o3, rfl⟩, ⟨o4, rfl⟩, ⟨o5, rfl⟩, ⟨o6, rfl⟩, ⟨o7, rfl⟩, ⟨o8, rfl⟩, ⟨o9, rfl⟩, ⟨o10, rfl⟩, ⟨o11, rfl⟩, rfl⟩ := hP
  | obtain ⟨_, _, _, _, _, _, _, _, _, _, _, _, ⟨o1, rfl⟩, ⟨o2, rfl⟩, ⟨o3, rfl⟩, ⟨o4, rfl⟩, ⟨o5, rfl⟩, ⟨o6, rfl⟩, ⟨o7, rfl⟩, ⟨o8, rfl⟩, ⟨o9, rfl⟩, ⟨o10, rfl⟩, ⟨o11, rfl⟩, ⟨o12, rfl⟩, rfl⟩ := hP
  | obtain ⟨_, _, _, _, _, _, _, _, _, _, _, _, _, ⟨o1, rfl⟩, ⟨o2, rfl⟩, ⟨o3, rfl⟩, ⟨o4, rfl⟩, ⟨o5, rfl⟩, ⟨o6, rfl⟩, ⟨o7, rfl⟩, ⟨o8, rfl⟩, ⟨o9, rfl⟩, ⟨o10, rfl⟩, ⟨o11, rfl⟩, ⟨o12, rfl⟩, ⟨o13, rfl⟩, rfl⟩ := hP
  | obtain ⟨_, _, _, _, _, _, _, _, _, _, _, _, _, _, ⟨o1, rfl⟩, ⟨o2, rfl⟩, ⟨o3, rfl⟩, ⟨o4, rfl⟩, ⟨o5, rfl⟩, ⟨o6, rfl⟩, ⟨o7, rfl⟩, ⟨o8, rfl⟩, ⟨o9, rfl⟩, ⟨o10, rfl⟩, ⟨o11, rfl⟩, ⟨o12, rfl⟩, ⟨o13, rfl⟩, ⟨o14, rfl⟩, rfl⟩ := hP
  | obtain ⟨_, _, _, _, _, _, _, _, _, _, _, _, _, _, _, ⟨o1, rfl⟩, ⟨o2, rfl⟩, ⟨o3, rfl⟩, ⟨o4, rfl⟩, ⟨o5, rfl⟩, ⟨o6, rfl⟩, ⟨o7, rfl⟩, ⟨o8, rfl⟩, ⟨o9, rfl⟩, ⟨o10, rfl⟩, ⟨o11, rfl⟩, ⟨o12, rfl⟩, ⟨o13, rfl⟩, ⟨o14, rfl⟩, ⟨o15, rfl⟩, rfl⟩ := hP
  | obtain ⟨_, _, _, _, _, _, _, _, _, _, _, _, _, _, _, _, ⟨o1, rfl⟩, ⟨o2, rfl⟩, ⟨o3, rfl⟩, ⟨o4, rfl⟩, ⟨o5, rfl⟩, ⟨o6, rfl⟩, ⟨o7, rfl⟩, ⟨o8, rfl⟩, ⟨o9, rfl⟩, ⟨o10, rfl⟩, ⟨o11, rfl⟩, ⟨o12, rfl⟩, ⟨o13, rfl⟩, ⟨o14, rfl⟩, ⟨o15, rfl⟩, ⟨o16, rfl⟩, rfl⟩ := hP)
/-! ### points and hills, plainly -/
abbrev Pt := List Int
abbrev Hl := List (Pt × Int)
abbrev eH : Pt × Int → PyData := fun p => .tuple [tI p.1, .int p.2]
abbrev tH (h : Hl) : PyData := .tuple (h.map eH)
abbrev lH (h : Hl) : PyData := .list (h.map eH)
theorem gI_l {xs ys : List Int} {i : Nat} (h : i < xs.length) : gI (xs ++ ys) i = gI xs i := by
  unfold gI
  rw [List.getD_eq_getElem?_getD, List.getD_eq_getElem?_getD, List.getElem?_append_left h]
theorem gI_last {xs : List Int} {x : Int} {i : Nat} (h : i = xs.length) : gI (xs ++ [x]) i = x := by
  subst h
  unfold gI
  rw [List.getD_eq_getElem?_getD, List.getElem?_concat_length]
  rfl
theorem gI_mem {xs : List Int} {i : Nat} (h : i < xs.length) : gI xs i ∈ xs := by rw [gI_at h]; exact List.getElem_mem h
theorem div_n (a b : Nat) : (a : Int) / (b : Int) = ((a / b : Nat) : Int) := (Int.natCast_ediv a b).symm
theorem atD_last {α : Type} {xs : List α} {x : α} {k : α → Prop} : atD (xs ++ [x]) (-1) k = k x := by
  unfold atD
  have e : atI (xs ++ [x]) (-1) = some x := by
    have e2 : ixN (xs.length + 1) (-1) = some xs.length := by
      unfold ixN
      rw [if_neg (by decide), if_pos (by omega), show ((-1 : Int) + ((xs.length + 1 : Nat) : Int)).toNat = xs.length by omega]
    unfold atI
    rw [List.length_append, List.length_singleton, e2]
    simp
  rw [e]
def upTo (a b : Int) : List Int := (List.range (b + 1 - a).toNat).map fun k : Nat => a + (k : Int)
theorem upTo_rg (a b : Int) : rgL a (b + 1) = (upTo a b).map .int := by
  unfold rgL upTo
  rw [List.map_map]
  rfl
theorem upTo_mem {a b x : Int} : x ∈ upTo a b ↔ a ≤ x ∧ x ≤ b := by
  unfold upTo
  rw [List.mem_map]
  constructor
  · rintro ⟨k, hk, rfl⟩
    have := List.mem_range.mp hk
    omega
  · rintro ⟨h1, h2⟩
    exact ⟨(x - a).toNat, List.mem_range.mpr (by omega), by omega⟩
theorem upTo_len (a b : Int) : (upTo a b).length = (b + 1 - a).toNat := by unfold upTo; simp
theorem upTo_sort (a b : Int) : (upTo a b).Pairwise (· < ·) := by
  unfold upTo
  rw [List.pairwise_map]
  exact List.pairwise_lt_range.imp fun h => by omega
/-- the points of a box -/
def boxL : List Int → List Int → List Pt
  | a :: as, b :: bs => (upTo a b).flatMap fun x => (boxL as bs).map (x :: ·)
  | _, _ => [[]]
def boxSz : List Int → List Int → Nat
  | a :: as, b :: bs => (b + 1 - a).toNat * boxSz as bs
  | _, _ => 1
theorem boxL_mem : ∀ {as bs : List Int} {p : Pt}, as.length = bs.length → (p ∈ boxL as bs ↔ p.length = as.length ∧ ∀ i < as.length, gI as i ≤ gI p i ∧ gI p i ≤ gI bs i)
  | [], [], p, _ => by
    show p ∈ [[]] ↔ _
    constructor
    · intro h
      rw [List.mem_singleton] at h
      subst h
      exact ⟨rfl, fun i hi => absurd hi (Nat.not_lt_zero _)⟩
    · rintro ⟨h, _⟩
      rw [List.mem_singleton]
      exact List.eq_nil_of_length_eq_zero h
  | a :: as, b :: bs, p, h => by
    have ih := fun q => boxL_mem (as := as) (bs := bs) (p := q) (Nat.succ.inj h)
    show p ∈ (upTo a b).flatMap (fun x => (boxL as bs).map (x :: ·)) ↔ _
    rw [List.mem_flatMap]
    constructor
    · rintro ⟨x, hx, hp⟩
      obtain ⟨q, hq, rfl⟩ := List.mem_map.mp hp
      obtain ⟨q1, q2⟩ := (ih q).mp hq
      refine ⟨by simp [q1], fun i hi => ?_⟩
      cases i with
      | zero => exact upTo_mem.mp hx
      | succ i => exact q2 i (Nat.lt_of_succ_lt_succ hi)
    · rintro ⟨h1, h2⟩
      cases p with
      | nil => cases h1
      | cons x q => exact ⟨x, upTo_mem.mpr (h2 0 (Nat.zero_lt_succ _)), List.mem_map.mpr ⟨q, (ih q).mpr ⟨Nat.succ.inj h1, fun i hi => h2 (i + 1) (Nat.succ_lt_succ hi)⟩, rfl⟩⟩
  | [], _ :: _, _, h => by cases h
  | _ :: _, [], _, h => by cases h
theorem boxL_sort : ∀ as bs : List Int, (boxL as bs).Pairwise (· < ·)
  | a :: as, b :: bs => by
    show ((upTo a b).flatMap fun x => (boxL as bs).map (x :: ·)).Pairwise (· < ·)
    rw [List.pairwise_flatMap]
    refine ⟨fun x _ => ?_, (upTo_sort a b).imp fun h p hp q hq => ?_⟩
    · rw [List.pairwise_map]
      exact (boxL_sort as bs).imp fun h => List.cons_lt_cons_iff.mpr (.inr ⟨rfl, h⟩)
    · obtain ⟨p', _, rfl⟩ := List.mem_map.mp hp
      obtain ⟨q', _, rfl⟩ := List.mem_map.mp hq
      exact List.cons_lt_cons_iff.mpr (.inl h)
  | [], _ => List.pairwise_singleton _ _
  | _ :: _, [] => List.pairwise_singleton _ _
theorem boxL_len : ∀ as bs : List Int, (boxL as bs).length = boxSz as bs
  | a :: as, b :: bs => by
    show ((upTo a b).flatMap fun x => (boxL as bs).map (x :: ·)).length = (b + 1 - a).toNat * boxSz as bs
    rw [List.length_flatMap]
    simp only [List.length_map, boxL_len as bs]
    rw [List.map_const', List.sum_replicate_nat, upTo_len]
  | [], _ => rfl
  | _ :: _, [] => rfl
def boxStep (found : List Pt) (ab : Int × Int) : List Pt := found.flatMap fun p => (upTo ab.1 ab.2).map fun x => p ++ [x]
theorem box_fold : ∀ (as bs : List Int) (found : List Pt), as.length = bs.length → (List.zip as bs).foldl boxStep found = found.flatMap fun p => (boxL as bs).map fun q => p ++ q
  | a :: as, b :: bs, found, h => by
    rw [List.zip_cons_cons, List.foldl_cons, box_fold as bs _ (Nat.succ.inj h)]
    show (found.flatMap fun p => (upTo a b).map fun x => p ++ [x]).flatMap _ = found.flatMap fun p => ((upTo a b).flatMap fun x => (boxL as bs).map (x :: ·)).map fun q => p ++ q
    simp only [List.flatMap_assoc, List.flatMap_map, List.map_flatMap, List.map_map]
    refine congrArg (fun f => List.flatMap f found) (funext fun p => congrArg (fun f => List.flatMap f (upTo a b)) (funext fun x => List.map_congr_left fun q _ => ?_))
    simp
  | [], [], found, _ => by
    show found = found.flatMap fun p => [p ++ []]
    simp
  | [], _ :: _, _, h => by cases h
  | _ :: _, [], _, h => by cases h
theorem box_all {as bs : List Int} (h : as.length = bs.length) : (List.zip as bs).foldl boxStep [[]] = boxL as bs := by
  rw [box_fold as bs _ h]
  simp
theorem boxSz_app : ∀ (as bs : List Int) (a b : Int), as.length = bs.length → boxSz (as ++ [a]) (bs ++ [b]) = boxSz as bs * (b + 1 - a).toNat
  | x :: as, y :: bs, a, b, h => by
    show (y + 1 - x).toNat * boxSz (as ++ [a]) (bs ++ [b]) = (y + 1 - x).toNat * boxSz as bs * (b + 1 - a).toNat
    rw [boxSz_app as bs a b (Nat.succ.inj h), Nat.mul_assoc]
  | [], [], a, b, _ => by
    show (b + 1 - a).toNat * 1 = 1 * (b + 1 - a).toNat
    omega
  | [], _ :: _, _, _, h => by cases h
  | _ :: _, [], _, _, h => by cases h
def cS (m : Nat) : Nat := [9, 5, 4, 3].getD (m - 1) 0
structure Box (m : Nat) (mst : Nat) (low high : List Int) : Prop where
  ll : low.length = m
  lh : high.length = m
  lo : DL.inR (-3) 3 low
  hi : ∀ i < m, gI low i ≤ gI high i ∧ gI high i + 1 ≤ gI low i + (cS m : Int)
  sz : boxSz low high ≤ mst
theorem cS_le {m : Nat} (h : 1 ≤ m ∧ m ≤ 4) : 3 ≤ cS m ∧ cS m ≤ 9 ∧ m * (cS m - 1) ≤ 9 := by
  rcases (show m = 1 ∨ m = 2 ∨ m = 3 ∨ m = 4 by omega) with rfl | rfl | rfl | rfl <;> decide
/-- a hill of m places -/
structure HB (m : Nat) (h : Hl) : Prop where
  ne : h ≠ []
  len : h.length ≤ 50
  pl : ∀ p ∈ h, p.1.length = m
  pt : ∀ p ∈ h, DL.inR (-20) 20 p.1
  wo : ∀ p ∈ h, -1000 ≤ p.2 ∧ p.2 ≤ 1000
  srt : h.Pairwise fun p q => p.1 < q.1
/-! ### in order -/
theorem ordOk_i {xs : List Int} : ordOk (xs.map .int) := ⟨⟨fun x hx y hy => by
    obtain ⟨i, _, rfl⟩ := List.mem_map.mp hx
    obtain ⟨j, _, rfl⟩ := List.mem_map.mp hy
    rfl, fun x hx => by obtain ⟨i, _, rfl⟩ := List.mem_map.mp hx; exact fun h => nomatch h⟩, by rw [PySem.W.depth_ints]; decide⟩
def minI (x : Int) (xs : List Int) : Int := xs.foldl min x
def maxI (x : Int) (xs : List Int) : Int := xs.foldl max x
def loI (xs : List Int) : Int := match xs with
  | [] => 0
  | x :: xs => xs.foldl min x
def hiI (xs : List Int) : Int := match xs with
  | [] => 0
  | x :: xs => xs.foldl max x
theorem hi_le {B : Int} : ∀ (l : List Int) (n : Int), l.foldl max n ≤ B ↔ n ≤ B ∧ ∀ x ∈ l, x ≤ B
  | [], n => ⟨fun h => ⟨h, fun _ h => nomatch h⟩, fun h => h.1⟩
  | x :: l, n => by
    rw [List.foldl_cons, hi_le l (max n x), List.forall_mem_cons]
    constructor
    · rintro ⟨h1, h2⟩; exact ⟨by omega, by omega, h2⟩
    · rintro ⟨h1, h2, h3⟩; exact ⟨by omega, h3⟩
theorem lo_le {B : Int} : ∀ (l : List Int) (n : Int), B ≤ l.foldl min n ↔ B ≤ n ∧ ∀ x ∈ l, B ≤ x
  | [], n => ⟨fun h => ⟨h, fun _ h => nomatch h⟩, fun h => h.1⟩
  | x :: l, n => by
    rw [List.foldl_cons, lo_le l (min n x), List.forall_mem_cons]
    constructor
    · rintro ⟨h1, h2⟩; exact ⟨by omega, by omega, h2⟩
    · rintro ⟨h1, h2, h3⟩; exact ⟨by omega, h3⟩
theorem hiI_le {B : Int} {xs : List Int} (h : xs ≠ []) : hiI xs ≤ B ↔ ∀ x ∈ xs, x ≤ B := by
  cases xs with
  | nil => exact absurd rfl h
  | cons x xs => exact (hi_le xs x).trans (List.forall_mem_cons (p := fun y => y ≤ B)).symm
theorem loI_le {B : Int} {xs : List Int} (h : xs ≠ []) : B ≤ loI xs ↔ ∀ x ∈ xs, B ≤ x := by
  cases xs with
  | nil => exact absurd rfl h
  | cons x xs => exact (lo_le xs x).trans (List.forall_mem_cons (p := fun y => B ≤ y)).symm
theorem mx_list {xs : List Int} {k : DL.N → Prop} (h : xs ≠ []) (q : k (.dat (.int (hiI xs)))) : bMx1 [.list (xs.map .int)] k := by
  cases xs with
  | nil => exact absurd rfl h
  | cons x xs =>
    refine ⟨ordOk_i (xs := x :: xs), ?_⟩
    rw [PySem.W.maxD_ints]
    exact q
theorem mx_tup {xs : List Int} {k : DL.N → Prop} (h : xs ≠ []) (q : k (.dat (.int (hiI xs)))) : bMx1 [.tuple (xs.map .int)] k := by
  cases xs with
  | nil => exact absurd rfl h
  | cons x xs =>
    refine ⟨ordOk_i (xs := x :: xs), ?_⟩
    rw [PySem.W.maxD_ints]
    exact q
theorem mn_list {xs : List Int} {k : DL.N → Prop} (h : xs ≠ []) (q : k (.dat (.int (loI xs)))) : bMn1 [.list (xs.map .int)] k := by
  cases xs with
  | nil => exact absurd rfl h
  | cons x xs =>
    refine ⟨ordOk_i (xs := x :: xs), ?_⟩
    rw [PySem.W.minD_ints]
    exact q
theorem mn_tup {xs : List Int} {k : DL.N → Prop} (h : xs ≠ []) (q : k (.dat (.int (loI xs)))) : bMn1 [.tuple (xs.map .int)] k := by
  cases xs with
  | nil => exact absurd rfl h
  | cons x xs =>
    refine ⟨ordOk_i (xs := x :: xs), ?_⟩
    rw [PySem.W.minD_ints]
    exact q
/-! ### sorted -/
def hLt (p q : Pt × Int) : Bool := if p.1 = q.1 then decide (p.2 < q.2) else decide (p.1 < q.1)
theorem alike_tI (xs ys : List Int) : PySem.W.alike (tI xs) (tI ys) = true := PySem.W.alike_ints xs ys
theorem eqv_ints : ∀ xs ys : List Int, PyData.eqv (tI xs) (tI ys) = decide (xs = ys) := fun xs ys => by
  have h : ∀ xs ys : List Int, PyData.eqvAll (xs.map .int) (ys.map .int) = decide (xs = ys) := by
    intro xs
    induction xs with
    | nil => intro ys; cases ys <;> rfl
    | cons x xs ih =>
      intro ys
      cases ys with
      | nil => rfl
      | cons y ys =>
        show ((x == y) && PyData.eqvAll (xs.map .int) (ys.map .int)) = decide (x :: xs = y :: ys)
        rw [ih ys]
        by_cases e : x = y
        · subst e; simp
        · simp [e]
  exact h xs ys
theorem lt_eH (p q : Pt × Int) : PySem.W.dataLt (eH p) (eH q) = hLt p q := by
  unfold eH hLt
  rw [PySem.W.dataLt_pair (alike_tI p.1 q.1) rfl, eqv_ints]
  by_cases e : p.1 = q.1
  · rw [if_pos (decide_eq_true e), if_pos e]
    show (if (p.2 == q.2) = true then false else PySem.W.dataLt (.int p.2) (.int q.2)) = decide (p.2 < q.2)
    by_cases e2 : p.2 = q.2
    · rw [if_pos (beq_iff_eq.mpr e2), e2, decide_eq_false (Int.lt_irrefl _)]
    · rw [if_neg (by rw [beq_iff_eq]; exact e2)]
      exact PySem.W.dataLt_int p.2 q.2
  · rw [if_neg (by rw [decide_eq_true_eq]; exact e), if_neg e]
    exact PySem.W.dataLt_ints p.1 q.1
def hLe (p q : Pt × Int) : Bool := !hLt q p
theorem le_eH (p q : Pt × Int) : PySem.W.dataLe false id (eH p) (eH q) = hLe p q := by
  rw [PySem.W.dataLe_eq]
  show (!PySem.W.dataLt (eH q) (eH p)) = _
  rw [lt_eH]
  rfl
def sortH (h : Hl) : Hl := h.mergeSort hLe
theorem sortD_H (h : Hl) : sortD (h.map eH) = (sortH h).map eH := by
  unfold sortD sortH
  exact (List.map_mergeSort (r := hLe) (s := PySem.W.dataLe false id) (f := eH) (l := h) fun a _ b _ => (le_eH a b).symm).symm
theorem sortOk_H (h : Hl) : sortOk (h.map eH) := by
  refine ⟨fun d hd d' hd' => ?_, .inl fun d hd => ?_, ?_⟩
  · obtain ⟨p, _, rfl⟩ := List.mem_map.mp hd
    obtain ⟨q, _, rfl⟩ := List.mem_map.mp hd'
    show (PySem.W.alike (tI p.1) (tI q.1) && (true && true)) = true
    rw [alike_tI]; rfl
  · obtain ⟨p, _, rfl⟩ := List.mem_map.mp hd
    exact ⟨_, _, rfl⟩
  · have : ∀ h : Hl, PyData.depthAll (h.map eH) ≤ 2 := by
      intro h
      induction h with
      | nil => exact Nat.zero_le _
      | cons p h ih =>
        show max (PyData.depth (eH p)) (PyData.depthAll (h.map eH)) ≤ 2
        have e : PyData.depth (eH p) ≤ 2 := by
          show max (PyData.depthAll (p.1.map .int) + 1) (max 0 0) + 1 ≤ 2
          rw [PySem.W.depth_ints]
          decide
        omega
    exact Nat.le_trans (this h) (by decide)
theorem sort_list {h : Hl} {k : DL.N → Prop} (q : k (.lst ((sortH h).map eH))) : bSorted [.list (h.map eH)] k := ⟨sortOk_H h, by rw [sortD_H]; exact q⟩
theorem sort_tup {h : Hl} {k : DL.N → Prop} (q : k (.lst ((sortH h).map eH))) : bSorted [.tuple (h.map eH)] k := ⟨sortOk_H h, by rw [sortD_H]; exact q⟩
theorem sortH_perm (h : Hl) : (sortH h).Perm h := List.mergeSort_perm _ _
theorem lt_tri (p q : Pt) : p < q ∨ p = q ∨ q < p := by
  by_cases h : p < q
  · exact .inl h
  · rcases (List.le_iff_lt_or_eq.mp (List.not_lt.mp h)) with h | h
    · exact .inr (.inr h)
    · exact .inr (.inl h.symm)
theorem hLe_trans (a b c : Pt × Int) (h1 : hLe a b = true) (h2 : hLe b c = true) : hLe a c = true := by
  unfold hLe hLt at *
  rw [Bool.not_eq_true'] at *
  split at h1
  · rename_i e1
    split at h2
    · rename_i e2
      rw [if_pos (e2.trans e1)]
      rw [decide_eq_false_iff_not] at *
      omega
    · rename_i e2
      rw [if_neg (fun e => e2 (e.trans e1.symm))]
      rw [decide_eq_false_iff_not] at *
      rwa [← e1]
  · rename_i e1
    split at h2
    · rename_i e2
      rw [if_neg (fun e => e1 (e2.symm.trans e))]
      rw [decide_eq_false_iff_not] at *
      rwa [e2]
    · rename_i e2
      rw [decide_eq_false_iff_not] at h1 h2
      have l1 : a.1 < b.1 := by
        rcases lt_tri a.1 b.1 with h | h | h
        · exact h
        · exact absurd h.symm e1
        · exact absurd h h1
      have l2 : b.1 < c.1 := by
        rcases lt_tri b.1 c.1 with h | h | h
        · exact h
        · exact absurd h.symm e2
        · exact absurd h h2
      have l3 := List.lt_trans l1 l2
      rw [if_neg (fun e => by rw [e] at l3; exact List.lt_irrefl _ l3), decide_eq_false_iff_not]
      exact fun h => List.lt_irrefl _ (List.lt_trans l3 h)
theorem hLe_total (a b : Pt × Int) : (hLe a b || hLe b a) = true := by
  unfold hLe hLt
  by_cases e : a.1 = b.1
  · rw [if_pos e.symm, if_pos e]
    by_cases h : b.2 < a.2
    · rw [decide_eq_true h, decide_eq_false (show ¬ a.2 < b.2 by omega)]; rfl
    · rw [decide_eq_false h]; rfl
  · rw [if_neg (fun h => e h.symm), if_neg e]
    by_cases h : b.1 < a.1
    · rw [decide_eq_true h, decide_eq_false (fun h' => List.lt_irrefl _ (List.lt_trans h h'))]; rfl
    · rw [decide_eq_false h]; rfl
theorem sortH_le (h : Hl) : (sortH h).Pairwise fun p q => hLe p q = true := List.pairwise_mergeSort hLe_trans hLe_total h
/-- points all unlike: sorted they ascend -/
theorem sortH_lt {h : Hl} (nd : (h.map (·.1)).Nodup) : (sortH h).Pairwise fun p q => p.1 < q.1 := by
  have nd' : ((sortH h).map (·.1)).Nodup := ((sortH_perm h).map (·.1)).nodup_iff.mpr nd
  rw [List.Nodup, List.pairwise_map] at nd'
  refine (sortH_le h).and nd' |>.imp fun {p q} ⟨h1, h2⟩ => ?_
  unfold hLe hLt at h1
  rw [if_neg (fun e => h2 e.symm), Bool.not_eq_true', decide_eq_false_iff_not] at h1
  rcases lt_tri p.1 q.1 with h | h | h
  · exact h
  · exact absurd h h2
  · exact absurd h h1
theorem nodup_lt {h : Hl} (s : h.Pairwise fun p q => p.1 < q.1) : (h.map (·.1)).Nodup := by
  rw [List.Nodup, List.pairwise_map]
  exact s.imp fun h e => by rw [e] at h; exact List.lt_irrefl _ h
/-- two rows of pairs, the points ascending, with the same pairs -/
theorem same_lt : ∀ {a b : Hl}, a.Pairwise (fun p q => p.1 < q.1) → b.Pairwise (fun p q => p.1 < q.1) → a.Perm b → a = b := fun {a b} s1 s2 p => p.eq_of_pairwise (le := fun p q => p.1 < q.1) (fun x y _ _ h1 h2 => absurd (List.lt_trans h1 h2) (List.lt_irrefl _)) s1 s2
theorem sortH_self {h : Hl} (s : h.Pairwise fun p q => p.1 < q.1) : sortH h = h := same_lt (sortH_lt (nodup_lt s)) s (sortH_perm h)

/-! ### dicts of points -/
abbrev keyP (p : Pt) : List Key := p.map Sum.inl
theorem tP_key (p : Pt) : tP (keyP p) = tI p := by
  unfold tP
  rw [List.map_map]
  rfl
theorem keyP_inj : ∀ {p q : Pt}, keyP p = keyP q → p = q
  | [], [], _ => rfl
  | x :: p, y :: q, h => by
    obtain ⟨h1, h2⟩ := List.cons.inj (show (Sum.inl x : Key) :: keyP p = Sum.inl y :: keyP q from h)
    rw [Sum.inl.inj h1, keyP_inj h2]
  | [], _ :: _, h => by cases h
  | _ :: _, [], h => by cases h
def kH (h : Hl) : List (List Key × PyData) := h.map fun p => (keyP p.1, .int p.2)
def wAt (h : Hl) (p : Pt) : Option Int := (h.find? fun q => q.1 == p).map (·.2)
theorem val_H (h : Hl) (p : Pt) : valP (kH h) (keyP p) = (wAt h p).map .int := by
  unfold valP kH wAt
  rw [List.find?_map, Option.map_map, Option.map_map]
  have e : ((fun kv : List Key × PyData => decide (kv.1 = keyP p)) ∘ fun q : Pt × Int => (keyP q.1, PyData.int q.2)) = fun q : Pt × Int => q.1 == p := by
    funext q
    show decide (keyP q.1 = keyP p) = (q.1 == p)
    by_cases e : q.1 = p
    · rw [e, decide_eq_true rfl, beq_self_eq_true]
    · rw [decide_eq_false (fun h => e (keyP_inj h)), beq_eq_false_iff_ne.mpr e]
  rw [e]
  rfl
theorem dic_H {h : Hl} {p : Pt} {k : Option PyData → Prop} (q : k ((wAt h p).map .int)) : dicD (encT (kH h)) (tI p) k := .inr ⟨kH h, keyP p, rfl, (tP_key p).symm, by rw [val_H]; exact q⟩
theorem put_H {h : Hl} {p : Pt} {w : Int} (nin : p ∉ h.map (·.1)) : putP (kH h) (keyP p) (.int w) = kH (h ++ [(p, w)]) := by
  unfold putP
  rw [if_neg]
  · unfold kH
    rw [List.map_append]
    rfl
  · intro e
    obtain ⟨x, hx, hk⟩ := List.any_eq_true.mp e
    unfold kH at hx
    obtain ⟨q, hq, rfl⟩ := List.mem_map.mp hx
    exact nin (List.mem_map.mpr ⟨q, hq, keyP_inj (of_decide_eq_true hk)⟩)
theorem nodup_mid {a : Hl} {p : Pt × Int} {b : Hl} (h : ((a ++ p :: b).map (·.1)).Nodup) : p.1 ∉ a.map (·.1) := by
  rw [List.map_append, List.nodup_append] at h
  intro hp
  exact h.2.2 _ hp _ (List.mem_cons_self) rfl
theorem putAll_H : ∀ (b a : Hl), ((a ++ b).map (·.1)).Nodup → putAll (kH a) (kH b) = kH (a ++ b)
  | [], a, _ => by rw [List.append_nil]; rfl
  | p :: b, a, h => by
    show putAll (putP (kH a) (keyP p.1) (.int p.2)) (kH b) = _
    rw [put_H (nodup_mid h)]
    have e : a ++ p :: b = (a ++ [(p.1, p.2)]) ++ b := by rw [List.append_assoc]; rfl
    rw [e] at h ⊢
    exact putAll_H b _ h
theorem dct_H {h : Hl} {k : DL.N → Prop} (ne : h ≠ []) (nd : (h.map (·.1)).Nodup) (q : k (.dT (kH h))) : bDct [tH h] k := by
  refine ⟨kH h, fun e => ne (List.map_eq_nil_iff.mp e), ?_, ?_⟩
  · unfold kH
    rw [List.map_map]
    refine List.map_congr_left fun p _ => ?_
    show eH p = .tuple [tP (keyP p.1), .int p.2]
    rw [tP_key]
  · have := putAll_H h [] nd
    rw [List.nil_append] at this
    rw [show putAll [] (kH h) = putAll (kH []) (kH h) from rfl, this]
    exact q
theorem wAt_mem {h : Hl} (nd : (h.map (·.1)).Nodup) {p : Pt × Int} (hp : p ∈ h) : wAt h p.1 = some p.2 := by
  unfold wAt
  induction h with
  | nil => cases hp
  | cons q h ih =>
    rw [List.map_cons, List.nodup_cons] at nd
    rw [List.find?_cons]
    rcases List.mem_cons.mp hp with rfl | hp
    · rw [beq_self_eq_true]
      rfl
    · have : (q.1 == p.1) = false := beq_eq_false_iff_ne.mpr fun e => nd.1 (e ▸ List.mem_map_of_mem hp)
      rw [this]
      exact ih nd.2 hp
theorem wAt_some {h : Hl} {p : Pt} {w : Int} (e : wAt h p = some w) : (p, w) ∈ h := by
  unfold wAt at e
  obtain ⟨q, hq, rfl⟩ := Option.map_eq_some_iff.mp e
  have := List.find?_some hq
  have e2 := eq_of_beq this
  rw [← e2]
  exact List.mem_of_find?_eq_some hq
/-! ### middles -/
def upM (p q : Pt) : Pt := (List.zip p q).map fun t => (t.1 + t.2 + 1) / 2
def dnM (p q : Pt) : Pt := (List.zip p q).map fun t => (t.1 + t.2) / 2
def LC (h : Hl) : Prop := ∀ p ∈ h, ∀ q ∈ h, ∃ u ∈ h, ∃ d ∈ h, u.1 = upM p.1 q.1 ∧ d.1 = dnM p.1 q.1 ∧ u.2 + d.2 ≤ p.2 + q.2
theorem gI_up {p q : Pt} {i : Nat} (h1 : i < p.length) (h2 : i < q.length) : gI (upM p q) i = (gI p i + gI q i + 1) / 2 := by
  unfold upM
  rw [gI_at (by rw [List.length_map, List.length_zip]; omega), List.getElem_map, List.getElem_zip, gI_at h1, gI_at h2]
theorem gI_dn {p q : Pt} {i : Nat} (h1 : i < p.length) (h2 : i < q.length) : gI (dnM p q) i = (gI p i + gI q i) / 2 := by
  unfold dnM
  rw [gI_at (by rw [List.length_map, List.length_zip]; omega), List.getElem_map, List.getElem_zip, gI_at h1, gI_at h2]
theorem up_len {p q : Pt} (h : p.length = q.length) : (upM p q).length = p.length ∧ (dnM p q).length = p.length := by
  unfold upM dnM
  rw [List.length_map, List.length_map, List.length_zip]
  omega

theorem lc_ints {α : Type} {vs : List Nat} {g : WG} {te : WE} {Q : DL.N → En → Prop} {enc : α → PyData} (f : α → Int) {l : List α} {ρ : En} (ok : vsOk ρ vs)
    (h : ∀ a ∈ l, ∀ (k : PyData → En → Prop), k (.int (f a)) ρ → g (enc a) (wipeE ρ vs) fun ρ2 => te Z0 ρ2 fun n ρ4 => asD n fun e => k e (restE ρ vs ρ4)) (hl : l.length < 100000) (q : Q (.lst ((l.map f).map .int)) ρ) : lcLoop vs g wYes te Q (l.map enc) ρ [] := by
  refine lc_map (fun a => .int (f a)) ok h hl ?_
  rw [List.map_map] at q
  exact q
theorem atD_z {xs : List Int} {i : Int} {k : PyData → Prop} (h0 : 0 ≤ i) (h : i < xs.length) : atD (xs.map PyData.int) i k = k (.int (gI xs i.toNat)) := by
  obtain ⟨j, rfl⟩ := Int.eq_ofNat_of_zero_le h0
  rw [atD_g (by omega)]
  rfl
theorem sum_list {ns : List Int} {k : DL.N → Prop} (q : k (.dat (.int ns.sum))) : bSum [.list (ns.map .int)] k := ⟨ns, rfl, q⟩
theorem sum_tup {ns : List Int} {k : DL.N → Prop} (q : k (.dat (.int ns.sum))) : bSum [.tuple (ns.map .int)] k := ⟨ns, rfl, q⟩
theorem ret_step {w : WE} {Z : KX} {D : DE} {ρ : En} (h : w Z ρ D.rt) : sRet w Z D ρ := h
theorem env_step {s : WS} {Z : KX} {D : DE} {ρ ρ' : En} (e : ρ = ρ') (h : s Z D ρ') : s Z D ρ := e ▸ h
theorem wO_st {o : O2} {wa wb : DL.WX} {Z : KX} {ρ : En} {Q : DL.N → En → Prop} (h : ∀ Q1 : Ar → En → Prop, (∀ a ρ1, (wb Z ρ1 fun b ρ2 => lkD ρ2 a fun x => lkD ρ2 b fun y => o x y fun r => Q r ρ2) → Q1 a ρ1) → wa Z ρ Q1) : wO o wa wb Z ρ Q := h _ fun _ _ q => q
theorem xB_st {o : OA} {w : WE} {Z : KX} {ρ : En} {Q : Ar → En → Prop} (h : ∀ Q1 : DL.N → En → Prop, (∀ n ρ1, (asD n fun d => o ρ1 [.d d] fun m => asD m fun e => Q (.d e) ρ1) → Q1 n ρ1) → w Z ρ Q1) : xD (wB1 o (aCons (xD w) aNil)) Z ρ Q := h _ fun _ _ q => q
theorem wIf_st {wt : WT} {wa wb : WE} {Z : KX} {ρ : En} {Q : DL.N → En → Prop} (h : ∀ Qa Qb : En → Prop, (∀ ρ1, wa Z ρ1 Q → Qa ρ1) → (∀ ρ1, wb Z ρ1 Q → Qb ρ1) → wt Z ρ fun b ρ1 => if b = true then Qa ρ1 else Qb ρ1) : wIf wt wa wb Z ρ Q := h _ _ (fun _ q => q) fun _ q => q
theorem vAnd_st {wa wb : WE} {Z : KX} {ρ : En} {Q : DL.N → En → Prop} (h : ∀ Qa : En → Prop, (∀ ρ1, wb Z ρ1 Q → Qa ρ1) → wa Z ρ fun n ρ1 => bD n fun b => if b = true then Qa ρ1 else Q (.dat (.bool false)) ρ1) : vAnd wa wb Z ρ Q := h _ fun _ q => q
theorem mem1 {α : Type} {P : α → Prop} {a : α} (h1 : P a) : ∀ z ∈ [a], P z := List.forall_mem_cons.mpr ⟨h1, fun _ h => nomatch h⟩
theorem mem2 {α : Type} {P : α → Prop} {a b : α} (h1 : P a) (h2 : P b) : ∀ z ∈ [a, b], P z := List.forall_mem_cons.mpr ⟨h1, mem1 h2⟩
theorem okB_eH {p : Pt × Int} (h1 : smI p.1) (h2 : p.1.length ≤ 10) (h3 : p.2.natAbs < 2 ^ 64) : okB 2 22 (eH p) := (okB.tup (mem2 ((okB.tI h1).le (Nat.le_refl 1) h2) ((okB.i h3).le (by decide) (by decide)))).le (by decide) (by simp)
theorem okB_tH {h : Hl} (hh : ∀ p ∈ h, okB 2 22 (eH p)) : okB 3 (23 * h.length) (tH h) := by
  have := okB.tup (xs := h.map eH) (D := 2) (n := 22) fun x hx => by obtain ⟨p, hp, rfl⟩ := List.mem_map.mp hx; exact hh p hp
  rwa [List.length_map] at this
theorem rep_of {d : PyData} {Q : DL.N → Prop} (h : repD d) (k : Q (.dat (.str d.shown))) : bRepr [d] Q := h _ k
set_option hygiene false in
local macro_rules | `(tactic| walk_at "rd") => `(tactic| (with_reducible refine rep_of (by assumption) ?_))
/-- all that is asked of a hill -/
structure KB (m : Nat) (h : Hl) : Prop where
  m4 : 1 ≤ m ∧ m ≤ 4
  ne : h ≠ []
  nd : (h.map (·.1)).Nodup
  hl : h.length ≤ 60
  hp : ∀ p ∈ h, p.1.length = m
  pt : ∀ p ∈ h, DL.inR (-1000) 1000 p.1
  wo : ∀ p ∈ h, -1000000 ≤ p.2 ∧ p.2 ≤ 1000000
theorem KB.sm {m : Nat} {h : Hl} (B : KB m h) : ∀ p ∈ h, smI p.1 := fun p mp x hx => by have := B.pt p mp x hx; omega
theorem KB.big {m : Nat} {h : Hl} (B : KB m h) : ∀ p ∈ h, ∀ x ∈ p.1, -(2 ^ 64) < x ∧ x < 2 ^ 64 := fun p mp x hx => by have := B.pt p mp x hx; omega
theorem KB.ok {m : Nat} {h : Hl} (B : KB m h) : ∀ p ∈ h, okB 2 22 (eH p) := fun p mp => okB_eH (B.sm p mp) (by have := B.hp p mp; have := B.m4; omega) (by have := B.wo p mp; omega)
def tim (ps p : Pt) : Int := ((List.zip ps p).map fun t => t.1 * t.2).sum
/-! losses -/
abbrev eL : Int × Pt → PyData := fun t => .tuple [.int t.1, tI t.2]
theorem alike_L (s t : Int × Pt) : PySem.W.alike (eL s) (eL t) = true := by
  show (true && (PySem.W.alike (tI s.2) (tI t.2) && true)) = true
  rw [alike_tI]; rfl
theorem depth_L : ∀ L : List (Int × Pt), PyData.depthAll (L.map eL) ≤ 2 := fun L => by
  induction L with
  | nil => exact Nat.zero_le _
  | cons p L ih =>
    show max (PyData.depth (eL p)) (PyData.depthAll (L.map eL)) ≤ 2
    have e : PyData.depth (eL p) ≤ 2 := by
      show max 0 (max (PyData.depthAll (p.2.map .int) + 1) 0) + 1 ≤ 2
      rw [PySem.W.depth_ints]
      decide
    omega
theorem ordOk_L {L : List (Int × Pt)} : ordOk (L.map eL) := ⟨⟨fun x hx y hy => by
    obtain ⟨s, _, rfl⟩ := List.mem_map.mp hx
    obtain ⟨t, _, rfl⟩ := List.mem_map.mp hy
    exact alike_L s t, fun x hx => by obtain ⟨i, _, rfl⟩ := List.mem_map.mp hx; exact fun h => nomatch h⟩, Nat.le_trans (depth_L L) (by decide)⟩
def minL (L : List (Int × Pt)) : PyData := match L with
  | [] => .none
  | t :: L => PySem.W.minD (eL t) (L.map eL)
theorem mn_L {L : List (Int × Pt)} {k : DL.N → Prop} (h : L ≠ []) (q : k (.dat (minL L))) : bMn1 [.list (L.map eL)] k := by
  cases L with
  | nil => exact absurd rfl h
  | cons t L => exact ⟨ordOk_L (L := t :: L), q⟩
theorem minD_mem : ∀ (L : List (Int × Pt)) (x : PyData), PySem.W.minD x (L.map eL) = x ∨ ∃ t ∈ L, PySem.W.minD x (L.map eL) = eL t
  | [], x => .inl rfl
  | t :: L, x => by
    show PySem.W.minD (if PySem.W.dataLt (eL t) x then eL t else x) (L.map eL) = x ∨ _
    rcases minD_mem L (if PySem.W.dataLt (eL t) x then eL t else x) with e | ⟨s, hs, e⟩
    · by_cases c : PySem.W.dataLt (eL t) x = true
      · rw [if_pos c] at e
        exact .inr ⟨t, List.mem_cons_self, by rw [List.map_cons]; show PySem.W.minD (if PySem.W.dataLt (eL t) x then eL t else x) (L.map eL) = _; rw [if_pos c, e]⟩
      · rw [if_neg c] at e ⊢
        exact .inl e
    · exact .inr ⟨s, List.mem_cons_of_mem _ hs, e⟩
theorem minL_ok {L : List (Int × Pt)} (h : ∀ t ∈ L, okB 2 22 (eL t)) : okB 2 22 (minL L) := by
  cases L with
  | nil => exact okB.non.le (by decide) (by decide)
  | cons t L =>
    unfold minL
    rcases minD_mem L (eL t) with e | ⟨s, hs, e⟩
    · dsimp only; rw [e]; exact h t List.mem_cons_self
    · dsimp only; rw [e]; exact h s (List.mem_cons_of_mem _ hs)
theorem okB_eL {t : Int × Pt} (h1 : smI t.2) (h2 : t.2.length ≤ 10) (h3 : t.1.natAbs < 2 ^ 64) : okB 2 22 (eL t) := (okB.tup (mem2 ((okB.i h3).le (by decide) (by decide)) ((okB.tI h1).le (Nat.le_refl 1) h2))).le (by decide) (by simp)
theorem eqv_L0 {L : List (Int × Pt)} (h : L ≠ []) : (PyData.list (L.map eL)).eqv (.list []) = false := by
  cases L with
  | nil => exact absurd rfl h
  | cons t L => rfl

section
variable {α σ : Type} {Z : KX} {D : DE} {g : WG} {b : WS}
/-- a loop that carries a state, and counts -/
theorem loop_foldN {enc : α → PyData} (P : Nat → σ → En → Prop) (f : σ → α → σ) (N : Nat) : ∀ (l : List α) (s : σ) (n : Nat), n + l.length = N →
    (∀ a ∈ l, ∀ n, n < N → ∀ s ρ, P n s ρ → ∀ K, (∀ ρ', P (n + 1) (f s a) ρ' → K ρ') → g (enc a) ρ fun ρ1 => b Z { D with nx := K, ct := K, bk := D.nx } ρ1) →
    (∀ ρ, P N (l.foldl f s) ρ → D.nx ρ) → ∀ ρ, P n s ρ → wLoop Z D g b (l.map enc) ρ
  | [], s, n, hn, _, fin, ρ, h => fin ρ (by rw [← hn]; exact h)
  | a :: l, s, n, hn, step, fin, ρ, h => step a List.mem_cons_self n (by rw [← hn, List.length_cons]; omega) s ρ h (wLoop Z D g b (l.map enc)) fun ρ' h' => loop_foldN P f N l (f s a) (n + 1) (by rw [← hn, List.length_cons]; omega) (fun a ha => step a (List.mem_cons_of_mem _ ha)) fin ρ' h'
end
/-! the pot that counts its draws -/
abbrev potN (N : Nat) : Res := potT "great" "stirred" "turn" 61 N
abbrev pT (N : Nat) : Sl := .p (.res (potN N))
abbrev vT (N : Nat) : Sl := .v (.res (potN N))
abbrev LIM : Nat := 1000000000
section
variable {α β : Type} {vs : List Nat} {g : WG} {tt : WT} {te : WE} {Q : DL.N → En → Prop} {enc : α → PyData}
/-- what is drawn for each item, the draws being counted -/
theorem lc_relN (i : Nat) (S : Nat → Sl) (c : Nat) (dec : β → PyData) (Pr : α → β → Prop) {ρ : En} : ∀ {l : List α} {N : Nat} {acc : List PyData}, (∀ N, vsOk (ρ.set i (S N)) vs) → N + c * l.length ≤ LIM →
    (∀ a ∈ l, ∀ N, N + c ≤ LIM → ∀ (k : PyData → En → Prop), (∀ e N', N' ≤ N + c → Pr a e → k (dec e) (ρ.set i (S N'))) → g (enc a) (wipeE (ρ.set i (S N)) vs) fun ρ2 => te Z0 ρ2 fun n ρ4 => asD n fun e => k e (restE (ρ.set i (S N)) vs ρ4)) → acc.length + l.length < 100000 →
    (∀ (es : List β) (N' : Nat), N' ≤ N + c * l.length → es.length = l.length → (∀ t ∈ List.zip l es, Pr t.1 t.2) → Q (.lst (acc ++ es.map dec)) (ρ.set i (S N'))) → lcLoop vs g wYes te Q (l.map enc) (ρ.set i (S N)) acc
  | [], N, acc, _, _, _, _, q => by
    have := q [] N (Nat.le_add_right _ _) rfl (fun _ h => nomatch h)
    rw [List.map_nil, List.append_nil] at this
    exact this
  | a :: l, N, acc, ok, hN, h, hl, q => by
    rw [List.length_cons] at hl
    have ec : c * (a :: l).length = c * l.length + c := by rw [List.length_cons, Nat.mul_succ]
    rw [ec] at hN q
    refine ⟨ok N, ?_⟩
    have z := h a List.mem_cons_self N (by omega) (fun e ρ' => acc.length < 100000 ∧ lcLoop vs g wYes te Q (l.map enc) ρ' (acc ++ [e])) fun e N' hN' he => ⟨by omega, lc_relN i S c dec Pr ok (by omega) (fun a ha => h a (List.mem_cons_of_mem _ ha)) (by rw [List.length_append]; simp only [List.length_cons, List.length_nil]; omega) fun es N2 h0 h1 h2 => ?_⟩
    · simpa only [wYes, if_true] using z
    · have := q (e :: es) N2 (by omega) (by rw [List.length_cons, List.length_cons, h1]) fun t ht => by
        rw [List.zip_cons_cons] at ht
        rcases List.mem_cons.mp ht with rfl | ht
        · exact he
        · exact h2 t ht
      rw [List.append_assoc]
      exact this
/-- some are taken, with what is drawn -/
theorem lc_pickN (i : Nat) (S : Nat → Sl) (c : Nat) (dec : α × β → PyData) (Pr : α → β → Prop) {ρ : En} : ∀ {l : List α} {N : Nat} {acc : List PyData}, (∀ N, vsOk (ρ.set i (S N)) vs) → N + c * l.length ≤ LIM →
    (∀ a ∈ l, ∀ N, N + c ≤ LIM → ∀ (k : PyData → En → Prop) (kn : En → Prop), (∀ b N', N' ≤ N + c → Pr a b → k (dec (a, b)) (ρ.set i (S N'))) → (∀ N', N' ≤ N + c → kn (ρ.set i (S N'))) → g (enc a) (wipeE (ρ.set i (S N)) vs) fun ρ2 => tt Z0 ρ2 fun b ρ3 => if b = true then te Z0 ρ3 fun n ρ4 => asD n fun e => k e (restE (ρ.set i (S N)) vs ρ4) else kn (restE (ρ.set i (S N)) vs ρ3)) → acc.length + l.length < 100000 →
    (∀ (bs : List (α × β)) (N' : Nat), N' ≤ N + c * l.length → (bs.map (·.1)).Sublist l → (∀ t ∈ bs, Pr t.1 t.2) → Q (.lst (acc ++ bs.map dec)) (ρ.set i (S N'))) → lcLoop vs g tt te Q (l.map enc) (ρ.set i (S N)) acc
  | [], N, acc, _, _, _, _, q => by
    have := q [] N (Nat.le_add_right _ _) (List.Sublist.refl _) (fun _ h => nomatch h)
    rw [List.map_nil, List.append_nil] at this
    exact this
  | a :: l, N, acc, ok, hN, h, hl, q => by
    rw [List.length_cons] at hl
    have ec : c * (a :: l).length = c * l.length + c := by rw [List.length_cons, Nat.mul_succ]
    rw [ec] at hN q
    refine ⟨ok N, h a List.mem_cons_self N (by omega) (fun e ρ' => acc.length < 100000 ∧ lcLoop vs g tt te Q (l.map enc) ρ' (acc ++ [e])) (fun ρ' => lcLoop vs g tt te Q (l.map enc) ρ' acc) (fun b N' hN' hb => ⟨by omega, ?_⟩) fun N' hN' => ?_⟩
    · refine lc_pickN i S c dec Pr ok (by omega) (fun a ha => h a (List.mem_cons_of_mem _ ha)) (by rw [List.length_append]; simp only [List.length_cons, List.length_nil]; omega) fun bs N2 h0 h1 h2 => ?_
      have := q ((a, b) :: bs) N2 (by omega) (h1.cons_cons a) fun t ht => by
        rcases List.mem_cons.mp ht with rfl | ht
        · exact hb
        · exact h2 t ht
      rw [List.append_assoc]
      exact this
    · exact lc_pickN i S c dec Pr ok (by omega) (fun a ha => h a (List.mem_cons_of_mem _ ha)) (by omega) fun bs N2 h0 h1 h2 => q bs N2 (by omega) (h1.cons a) h2
end
def potc (c : Int) : Int := 2 * (if c < 0 then -c else c) + (if c < 0 then 1 else 0)
section
variable {R : DL.N → En → Prop} {Z : Xc → En → Prop} {xs ys : List Int}
theorem pot_road {ns : List Int} (hl : ns.length ≤ 63) (k : ∀ ρ, ρ[0]? = some (.p (.scr ns)) → R (.res (potN 0)) ρ) : dsp__law_pot [.p (.scr ns)] R Z := by
  unfold dsp__law_pot dspOf w__law_pot
  have hz : (DL.cutD ns none (some 61)).length ≤ 61 := by unfold DL.cutD; rw [List.length_take, HT.sIx_none]; have e : HT.sIx ns.length ns.length (some (61 : Int)) = min 61 ns.length := HT.sIx_nat ns.length ns.length 61; rw [e]; omega
  refine seq_step fun K hK => ?_
  walk_at "dl"
  generalize DL.cutD ns none (some 61) = ms at hz
  refine lc_map (fun c : Int => .int (potc c)) (by walk_at "dl") (fun c hc k q => ?_) (by omega) ?_
  · walk_at "dl"
    exact ⟨.inl ⟨by decide, by decide⟩, q⟩
  walk_at "dl"
  refine ⟨.inl ⟨by decide, by decide⟩, hK _ ?_⟩
  clear hK
  refine seq_step fun K hK => for_step fun K2 hK2 => ?_
  walk_at "dl"
  refine hK2 _ _ (loop_keep (enc := fun c : Int => PyData.int (potc c)) (fun ρ => ∃ m : Int, (-(2 ^ 64) < m ∧ m < 2 ^ 64) ∧ Fr1 (fun s3 => [.p (.scr ns), .v (.dat (.list (ms.map fun c => .int (potc c)))), .v (.dat (.int m)), s3]) ρ) ms (fun c hc ρ hP K hK => ?_) (fun ρ hP => hK _ ?_) _ ⟨_, ?_, by walk_at "frm"⟩)
  · obtain ⟨m, hm, hP⟩ := hP
    walk_at "opn"
    walk_at "dl"
    refine ⟨.inl hm, by decide, hK _ ⟨_, mod_small (m := 4294967291) (by decide) (by decide), by walk_at "frm"⟩⟩
  · obtain ⟨m, hm, hP⟩ := hP
    walk_at "opn"
    refine ret_step ?_
    unfold DL.wDeckT
    walk_at "dl"
    refine lc_if (fun c : Int => decide (10 ^ 16 ≤ potc c)) (fun c : Int => .int (potc c)) (by walk_at "dl") (fun c hc k kn h1 h2 => ?_) (by omega) ?_
    · walk_at "dl"
      refine ⟨⟨by decide, by decide, by decide⟩, ?_⟩
      by_cases h : (10 : Int) ^ 16 ≤ potc c
      · rw [if_pos (by exact h)]; exact h1 (decide_eq_true h)
      · rw [if_neg (by exact h)]; exact h2 (decide_eq_false h)
    · walk_at "dl"
      refine ⟨_, ⟨(ms.filter fun c => decide (10 ^ 16 ≤ potc c)).map potc, by rw [List.map_map]; rfl, ?_⟩, k _ rfl⟩
      show (List.map potc _).length ≤ 61
      rw [List.length_map]
      exact Nat.le_trans (List.length_filter_le _ _) hz
  · omega
theorem dr_road {many : Int} {N : Nat} (h : 1 ≤ many) (hm : many < 1073741824) (hN : N + 1 ≤ LIM) (k : ∀ (r N' : Nat), (r : Int) < many → N' ≤ N + 1 → ∀ ρ, ρ[0]? = some (pT N') → R (.dat (.int (r : Int))) ρ) : dsp__law_draw [pT N, .v (.dat (.int many))] R Z :=
  ⟨many, N, rfl, h, hm, by unfold LIM at hN; omega, fun r N' h1 h2 h3 => by
    obtain ⟨r, rfl⟩ := Int.eq_ofNat_of_zero_le h1
    exact k r N' h2 h3 _ rfl⟩
set_option hygiene false in
local macro_rules | `(tactic| walk_at "rd") => `(tactic| (with_reducible refine dr_road (by walk_at "side") (by walk_at "side") (by walk_at "side") fun r N1 r1 hN1 ρ h0 => ?_) <;> rw [h0] <;> clear h0)
theorem pick_road {items : List PyData} {N : Nat} (h : 1 ≤ items.length) (hm : items.length < 1000) (hN : N + 1 ≤ LIM) (k : ∀ x ∈ items, ∀ N', N' ≤ N + 1 → ∀ ρ, ρ[0]? = some (pT N') → R (.dat x) ρ) : dsp__law_pick [pT N, .v (.dat (.list items))] R Z := by
  unfold dsp__law_pick dspOf w__law_pick
  refine ret_step ?_
  walk_at "dl"
  refine dr_road (by omega) (by omega) hN fun r N1 r1 hN1 ρ h0 => ?_
  rw [h0]
  clear h0
  walk_at "dl"
  have hi : r < items.length := by omega
  rw [atD_nat hi]
  exact k _ (List.getElem_mem hi) _ hN1 _ rfl
theorem pickT_road {items : List PyData} {N : Nat} (h : 1 ≤ items.length) (hm : items.length < 1000) (hN : N + 1 ≤ LIM) (k : ∀ x ∈ items, ∀ N', N' ≤ N + 1 → ∀ ρ, ρ[0]? = some (pT N') → R (.dat x) ρ) : dsp__law_pick [pT N, .v (.dat (.tuple items))] R Z := by
  unfold dsp__law_pick dspOf w__law_pick
  refine ret_step ?_
  walk_at "dl"
  refine dr_road (by omega) (by omega) hN fun r N1 r1 hN1 ρ h0 => ?_
  rw [h0]
  clear h0
  walk_at "dl"
  have hi : r < items.length := by omega
  rw [atD_nat hi]
  exact k _ (List.getElem_mem hi) _ hN1 _ rfl
end
set_option hygiene false in
local macro_rules | `(tactic| walk_at "rd") => `(tactic| (with_reducible refine dr_road (by walk_at "side") (by walk_at "side") (by walk_at "side") fun r N1 r1 hN1 ρ h0 => ?_) <;> rw [h0] <;> clear h0)
set_option hygiene false in
local macro_rules | `(tactic| walk_at "rd") => `(tactic| (with_reducible refine pick_road (by walk_at "side") (by walk_at "side") (by walk_at "side") fun y y1 N1 hN1 ρ h0 => ?_) <;> rw [h0] <;> clear h0)

section
variable {R : DL.N → En → Prop} {Z : Xc → En → Prop} {xs ys : List Int}
theorem zip_i2 {as bs : List Int} : zipD (as.map .int) (bs.map .int) = (List.zip as bs).map fun p => .tuple [.int p.1, .int p.2] := zip_i as bs
def boxP (low high : List Int) (n : Nat) (found : List Pt) (ρ : En) : Prop := (found.length ≤ 10 ^ n ∧ ∀ q ∈ found, q.length = n) ∧ Fr5 (fun s3 s4 s5 s6 s7 => [.v (.dat (lI low)), .v (.dat (lI high)), .v (.dat (.list (found.map tI))), s3, s4, s5, s6, s7]) ρ
theorem pow10_4 {n : Nat} (h : n < 4) : 10 ^ n ≤ 1000 := by
  rcases (show n = 0 ∨ n = 1 ∨ n = 2 ∨ n = 3 by omega) with rfl | rfl | rfl | rfl <;> decide
theorem box_road {low high : List Int} (hl : low.length = high.length) (h4 : low.length ≤ 4) (hw : ∀ p ∈ List.zip low high, p.2 + 1 - p.1 ≤ 10 ∧ -1000 ≤ p.1 ∧ p.1 ≤ 1000 ∧ -1000 ≤ p.2 ∧ p.2 ≤ 1000) (k : ∀ ρ, R (.dat (.list ((boxL low high).map tI))) ρ) : dsp__law_box [.v (.dat (lI low)), .v (.dat (lI high))] R Z := by
  unfold dsp__law_box dspOf w__law_box
  walk_at "vc"
  rw [zip_i]
  refine hKl _ _ (loop_foldN (boxP low high) boxStep (List.zip low high).length (List.zip low high) [[]] 0 (Nat.zero_add _) (fun p hp n hn found ρ hP K hK => ?_) (fun ρ hP => ?_) _ ⟨⟨by decide, by simp⟩, by walk_at "frm"⟩)
  · obtain ⟨⟨hf, hfl⟩, hP⟩ := hP
    walk_at "opn"
    obtain ⟨w1, w2, w3, w4, w5⟩ := hw p hp
    have hn4 : n < 4 := by rw [List.length_zip] at hn; omega
    have hp4 := pow10_4 hn4
    have hu : (upTo p.1 p.2).length ≤ 10 := by rw [upTo_len]; omega
    walk_at "vc"
    refine hKl _ _ (loop_foldN (fun m acc ρ => acc.length ≤ 10 * m ∧ Fr2 (fun s6 s7 => [.v (.dat (lI low)), .v (.dat (lI high)), .v (.dat (.list (found.map tI))), .v (.dat (.int p.1)), .v (.dat (.int p.2)), .v (.lst (acc.map tI)), s6, s7]) ρ) (fun (acc : List Pt) q => acc ++ (upTo p.1 p.2).map fun x => q ++ [x]) found.length found [] 0 (Nat.zero_add _) (fun q hq m hm acc ρ hP K hK => ?_) (fun ρ hP => ?_) _ ⟨by decide, by walk_at "frm"⟩)
    · obtain ⟨ha, hP⟩ := hP
      walk_at "opn"
      have hql := hfl q hq
      walk_at "vc"
      rw [upTo_rg]
      refine lc_map (enc := PyData.int) (fun x : Int => tI (q ++ [x])) (by walk_at "vc") (fun x hx k' q' => ?_) (by omega) ?_
      · walk_at "vc"
        rw [show q.map PyData.int ++ [PyData.int x] = (q ++ [x]).map .int by rw [List.map_append]; rfl]
        exact q'
      · walk_at "vc"
        rw [show acc.map tI ++ (upTo p.1 p.2).map (fun x : Int => tI (q ++ [x])) = (acc ++ (upTo p.1 p.2).map fun x => q ++ [x]).map tI by rw [List.map_append, List.map_map]; rfl]
        exact (by walk_at "frm")
    · obtain ⟨ha, hP⟩ := hP
      walk_at "opn"
      walk_at "vc"
      have e : found.foldl (fun (acc : List Pt) q => acc ++ (upTo p.1 p.2).map fun x => q ++ [x]) [] = boxStep found p := by
        unfold boxStep
        rw [List.flatMap_eq_foldl]
      rw [e] at ha ⊢
      refine ⟨⟨?_, fun q hq => ?_⟩, by walk_at "frm"⟩
      · rw [Nat.pow_succ]; omega
      · unfold boxStep at hq
        obtain ⟨r, hr, hq⟩ := List.mem_flatMap.mp hq
        obtain ⟨x, _, rfl⟩ := List.mem_map.mp hq
        rw [List.length_append, hfl r hr]; rfl
  · obtain ⟨hf, hP⟩ := hP
    walk_at "opn"
    walk_at "vc"
    rw [box_all hl]
    exact k _
end
set_option hygiene false in
local macro_rules | `(tactic| walk_at "rd") => `(tactic| (with_reducible refine box_road (by assumption) (by walk_at "side") (by assumption) fun ρ => ?_))
/-! rows that bend upwards -/
structure Bent (n : Nat) (row : List Int) : Prop where
  len : row.length = n
  bd : ∀ k < n, -4 - 4 * (k : Int) ≤ gI row k ∧ gI row k ≤ 6 + (k : Int) * k
  cv : ∀ k, k + 2 < n → gI row (k + 1) - gI row k ≤ gI row (k + 2) - gI row (k + 1)
theorem erase_perm {α : Type} : ∀ (l : List α) (i : Nat) (h : i < l.length), (l[i] :: l.eraseIdx i).Perm l
  | [], _, h => absurd h (Nat.not_lt_zero _)
  | x :: l, 0, _ => .refl _
  | x :: l, i + 1, h => (List.Perm.swap _ _ _).trans ((erase_perm l i (Nat.lt_of_succ_lt_succ h)).cons x)
theorem erase_map {α β : Type} (f : α → β) : ∀ (l : List α) (i : Nat), (l.map f).eraseIdx i = (l.eraseIdx i).map f
  | [], _ => rfl
  | x :: l, 0 => rfl
  | x :: l, i + 1 => by
    rw [List.map_cons, List.eraseIdx_cons_succ, List.eraseIdx_cons_succ, List.map_cons, erase_map f l i]
theorem ixN_n {n j : Nat} (h : j < n) : ixN n (j : Int) = some j := by
  unfold ixN
  rw [if_pos (by omega), if_pos (by omega)]
  simp
section
variable {R : DL.N → En → Prop} {Z : Xc → En → Prop} {xs ys : List Int}
theorem mixed_loop {α : Type} {enc : α → PyData} {l : List α} {N : Nat} {s1 : Sl} (hs1 : s1 = .v (.dat (.list (l.map enc))) ∨ s1 = .v (.dat (.tuple (l.map enc)))) (hl : l.length ≤ 1000) (hN : N + l.length ≤ LIM) (k : ∀ ys : List α, ys.Perm l → ∀ N', N' ≤ N + l.length → ∀ ρ, ρ[0]? = some (pT N') → R (.lst (ys.map enc)) ρ) : dsp__law_mixed [pT N, s1] R Z := by
  unfold dsp__law_mixed dspOf w__law_mixed
  have J : ∀ D : DE, D.rt = R → sSeq (sFor (iRg1 (aCons (xD (wB1 (oB bLen) (aCons (xO 1) aNil))) aNil)) (gN 4) (sExp (wMt 3 mApp (aCons (xD (wMt 2 mPopAt (aCons (xD (wCall 2 dsp__law_draw (aCons (xO 0) (aCons (xD (wB1 (oB bLen) (aCons (xO 2) aNil))) aNil)))) aNil))) aNil)))) (sRet (wM 3)) Z D [pT N, s1, .v (.lst (l.map enc)), .v (.lst []), .e] := fun D hD => by
    refine seq_step fun K hK => for_step fun K2 hK2 => ?_
    have J2 : wLoop Z { D with nx := K } (gN 4) (sExp (wMt 3 mApp (aCons (xD (wMt 2 mPopAt (aCons (xD (wCall 2 dsp__law_draw (aCons (xO 0) (aCons (xD (wB1 (oB bLen) (aCons (xO 2) aNil))) aNil)))) aNil))) aNil))) ((List.range l.length).map eN) [pT N, s1, .v (.lst (l.map enc)), .v (.lst []), .e] := by
      refine loop_foldN (enc := eN) (fun n (_ : Unit) ρ => ∃ (N' : Nat) (rest found : List α), N' ≤ N + n ∧ n + rest.length = l.length ∧ (found ++ rest).Perm l ∧ Fr1 (fun s4 => [pT N', s1, .v (.lst (rest.map enc)), .v (.lst (found.map enc)), s4]) ρ) (fun _ _ => ()) l.length (List.range l.length) () 0 (by rw [List.length_range]; omega) (fun i hi n hn _ ρ hP K3 hK3 => ?_) (fun ρ hP => ?_) _ ⟨N, l, [], by omega, by omega, .refl _, by walk_at "frm"⟩
      · obtain ⟨N', rest, found, hN', hn', hp, hP⟩ := hP
        walk_at "opn"
        have hlen := hp.length_eq
        rw [List.length_append] at hlen
        cases rest with
        | nil => rw [List.length_nil] at hn'; omega
        | cons x rest =>
          rw [List.length_cons] at hn' hlen
          rcases hs1 with rfl | rfl
          all_goals
            refine gN_step (by walk_at "dl") (by simp only [List.set_cons_succ, List.set_cons_zero]; rfl) ?_
            walk_at "dl"
            refine dr_road (by omega) (by omega) (by omega) fun r N2 r1 hN2 ρ h0 => ?_
            rw [h0]
            clear h0
            walk_at "dl"
            have hr : r < (x :: rest).length := by rw [List.length_cons]; omega
            have hr2 : r < rest.length + 1 := hr
            rw [ixN_n hr2]
            try dsimp only
            rw [← List.map_cons, List.getElem?_map, List.getElem?_eq_getElem hr]
            dsimp only [Option.map_some]
            walk_at "dl"
            refine ⟨by omega, by omega, hK3 _ ⟨N2, (x :: rest).eraseIdx r, found ++ [(x :: rest)[r]], by omega, ?_, ?_, ?_⟩⟩
            · rw [List.length_eraseIdx_of_lt hr, List.length_cons]; omega
            · rw [List.append_assoc]
              exact ((erase_perm _ _ hr).append_left found).trans hp
            · rw [show (enc x :: List.map enc rest).eraseIdx r = ((x :: rest).eraseIdx r).map enc from erase_map enc (x :: rest) r, List.map_append]
              walk_at "frm"
      · obtain ⟨N', rest, found, hN', hn', hp, hP⟩ := hP
        walk_at "opn"
        have e : rest = [] := List.eq_nil_of_length_eq_zero (by omega)
        subst e
        refine hK _ ?_
        clear hK hK2
        refine ret_step ?_
        walk_at "dl"
        rw [hD]
        exact k found (by rwa [List.append_nil] at hp) _ hN' _ rfl
    rcases hs1 with rfl | rfl
    all_goals
      walk_at "dl"
      exact ⟨by omega, hK2 _ _ J2⟩
  refine seq_step fun K hK => ?_
  rcases hs1 with rfl | rfl
  all_goals
    walk_at "dl"
    refine ⟨by decide, hK _ ?_⟩
    exact J _ rfl
theorem mixed_road {α : Type} {enc : α → PyData} {l : List α} {N : Nat} (hl : l.length ≤ 1000) (hN : N + l.length ≤ LIM) (k : ∀ ys : List α, ys.Perm l → ∀ N', N' ≤ N + l.length → ∀ ρ, ρ[0]? = some (pT N') → R (.lst (ys.map enc)) ρ) : dsp__law_mixed [pT N, .v (.dat (.list (l.map enc)))] R Z := mixed_loop (.inl rfl) hl hN k
theorem mixedT_road {α : Type} {enc : α → PyData} {l : List α} {N : Nat} (hl : l.length ≤ 1000) (hN : N + l.length ≤ LIM) (k : ∀ ys : List α, ys.Perm l → ∀ N', N' ≤ N + l.length → ∀ ρ, ρ[0]? = some (pT N') → R (.lst (ys.map enc)) ρ) : dsp__law_mixed [pT N, .v (.dat (.tuple (l.map enc)))] R Z := mixed_loop (.inr rfl) hl hN k
end

/-! sides, bends, boxes from nought -/
def sM (m : Nat) : Nat := [8, 5, 3, 2].getD (m - 1) 0
theorem sM_le {m : Nat} (h : 1 ≤ m ∧ m ≤ 4) : 2 ≤ sM m ∧ sM m ≤ 8 ∧ m * (sM m - 1) ≤ 8 := by
  rcases (show m = 1 ∨ m = 2 ∨ m = 3 ∨ m = 4 by omega) with rfl | rfl | rfl | rfl <;> decide
theorem atD_sM {m : Nat} {k : PyData → Prop} (h : 1 ≤ m ∧ m ≤ 4) : atD [PyData.int 8, PyData.int 5, PyData.int 3, PyData.int 2] ((m : Int) - 1) k = k (eN (sM m)) := by
  rw [show (m : Int) - 1 = ((m - 1 : Nat) : Int) by omega, atD_nat (show m - 1 < 4 by omega)]
  rcases (show m = 1 ∨ m = 2 ∨ m = 3 ∨ m = 4 by omega) with rfl | rfl | rfl | rfl <;> rfl
structure SD (m : Nat) (ss : List Int) : Prop where
  m4 : 1 ≤ m ∧ m ≤ 4
  ln : ss.length = m
  sd : ∀ x ∈ ss, 1 ≤ x ∧ x ≤ (sM m : Int)
abbrev zer (m : Nat) : List Int := List.replicate m 0
abbrev one1 (ss : List Int) : List Int := ss.map (· - 1)
abbrev bxS (m : Nat) (ss : List Int) : List Pt := boxL (zer m) (one1 ss)
theorem gI_rep {m i : Nat} (h : i < m) : gI (zer m) i = 0 := by rw [gI_at (by rw [List.length_replicate]; exact h), List.getElem_replicate]
theorem SD.len {m : Nat} {ss : List Int} (S : SD m ss) : (zer m).length = (one1 ss).length := by rw [List.length_replicate, List.length_map, S.ln]
theorem SD.pt {m : Nat} {ss : List Int} (S : SD m ss) {p : Pt} : p ∈ bxS m ss ↔ p.length = m ∧ ∀ i < m, 0 ≤ gI p i ∧ gI p i ≤ gI ss i - 1 := by
  have e : ∀ i < m, gI (one1 ss) i = gI ss i - 1 := fun i hi => by
    have := S.ln
    rw [gI_at (by rw [List.length_map]; omega), gI_at (by omega), List.getElem_map]
  rw [boxL_mem S.len, List.length_replicate]
  refine and_congr_right fun _ => forall_congr' fun i => forall_congr' fun hi => ?_
  rw [gI_rep hi, e i hi]
theorem SD.in7 {m : Nat} {ss : List Int} (S : SD m ss) {p : Pt} (h : p ∈ bxS m ss) : p.length = m ∧ ∀ x ∈ p, 0 ≤ x ∧ x ≤ (sM m : Int) - 1 := by
  obtain ⟨h1, h2⟩ := S.pt.mp h
  refine ⟨h1, fun x hx => ?_⟩
  obtain ⟨i, hi, rfl⟩ := List.getElem_of_mem hx
  have a := h2 i (by omega)
  have := S.ln
  have b := S.sd (gI ss i) (gI_mem (by omega))
  rw [gI_at hi] at a
  omega
theorem SD.sm {m : Nat} {ss : List Int} (S : SD m ss) : (bxS m ss).length ≤ 27 := by
  rw [boxL_len]
  obtain ⟨m4, ln, sd⟩ := S
  have aux : ∀ {x : Int} {B : Nat}, 1 ≤ x ∧ x ≤ (B : Int) → (x - 1 + 1 - 0).toNat ≤ B := fun h => by omega
  match ss, ln with
  | [], e => subst e; have := m4.1; simp at this
  | [a], e =>
    subst e
    have ha := aux (sd a (by simp))
    show (a - 1 + 1 - 0).toNat * 1 ≤ 27
    have : (a - 1 + 1 - 0).toNat ≤ 8 := ha
    omega
  | [a, b], e =>
    subst e
    have ha := aux (sd a (by simp))
    have hb := aux (sd b (by simp))
    show (a - 1 + 1 - 0).toNat * ((b - 1 + 1 - 0).toNat * 1) ≤ 27
    simp only [List.length_cons, List.length_nil] at ha hb
    have := Nat.mul_le_mul ha hb
    rw [Nat.mul_one]
    exact Nat.le_trans this (by decide)
  | [a, b, c], e =>
    subst e
    have ha := aux (sd a (by simp))
    have hb := aux (sd b (by simp))
    have hc := aux (sd c (by simp))
    show (a - 1 + 1 - 0).toNat * ((b - 1 + 1 - 0).toNat * ((c - 1 + 1 - 0).toNat * 1)) ≤ 27
    have e3 : sM 3 = 3 := rfl
    simp only [List.length_cons, List.length_nil] at ha hb hc
    have := Nat.mul_le_mul ha (Nat.mul_le_mul hb hc)
    rw [Nat.mul_one]
    exact Nat.le_trans this (by decide)
  | [a, b, c, d], e =>
    subst e
    have ha := aux (sd a (by simp))
    have hb := aux (sd b (by simp))
    have hc := aux (sd c (by simp))
    have hd := aux (sd d (by simp))
    show (a - 1 + 1 - 0).toNat * ((b - 1 + 1 - 0).toNat * ((c - 1 + 1 - 0).toNat * ((d - 1 + 1 - 0).toNat * 1))) ≤ 27
    have e3 : sM 4 = 2 := rfl
    simp only [List.length_cons, List.length_nil] at ha hb hc hd
    have := Nat.mul_le_mul ha (Nat.mul_le_mul hb (Nat.mul_le_mul hc hd))
    rw [Nat.mul_one]
    exact Nat.le_trans this (by decide)
  | a :: b :: c :: d :: e :: l, h =>
    simp only [List.length_cons] at h
    omega
theorem SD.zp {m : Nat} {ss : List Int} (S : SD m ss) : ∀ p ∈ List.zip (zer m) (one1 ss), p.2 + 1 - p.1 ≤ 10 ∧ -1000 ≤ p.1 ∧ p.1 ≤ 1000 ∧ -1000 ≤ p.2 ∧ p.2 ≤ 1000 := fun p hp => by
  have h1 := (List.mem_replicate.mp (List.of_mem_zip hp).1).2
  obtain ⟨x, hx, h2⟩ := List.mem_map.mp (List.of_mem_zip hp).2
  have := S.sd x hx
  have := sM_le S.m4
  omega
abbrev Bd := Int × Int × Int × Int
abbrev eB (b : Bd) : PyData := .tuple [.int b.1, .int b.2.1, .int b.2.2.1, .int b.2.2.2]
structure BK (b : Bd) : Prop where
  md : -1 ≤ b.1 ∧ b.1 ≤ 3
  dn : 0 ≤ b.2.1 ∧ b.2.1 ≤ 3
  up : 0 ≤ b.2.2.1 ∧ b.2.2.1 ≤ 3
  cv : 0 ≤ b.2.2.2 ∧ b.2.2.2 ≤ 2
def bdW (b : Bd) (x : Int) : Int := b.2.2.2 * (x - b.1) * (x - b.1) + if b.1 < x then b.2.2.1 * (x - b.1) else b.2.1 * (b.1 - x)
theorem ints_fin {x : Int} {n : Nat} (h0 : 0 ≤ x) (h1 : x ≤ n) : ∃ k : Nat, k ≤ n ∧ x = k := ⟨x.toNat, by omega, by omega⟩
theorem bdW_in {b : Bd} (B : BK b) {x : Int} (h : -8 ≤ x ∧ x ≤ 8) : 0 ≤ bdW b x ∧ bdW b x ≤ 300 := by
  obtain ⟨md, d, u, c⟩ := b
  obtain ⟨h1, h2, h3, h4⟩ := B
  dsimp only at h1 h2 h3 h4
  unfold bdW
  try dsimp only
  have sq : 0 ≤ (x - md) * (x - md) ∧ (x - md) * (x - md) ≤ 121 ∧ -11 ≤ x - md ∧ x - md ≤ 11 := by
    have a1 : (x - md).natAbs ≤ 11 := by omega
    have a2 := Nat.mul_le_mul a1 a1
    have a3 : (x - md) * (x - md) = (((x - md).natAbs * (x - md).natAbs : Nat) : Int) := by rw [Int.natAbs_mul_self]
    omega
  rw [Int.mul_assoc]
  generalize (x - md) * (x - md) = z at sq
  have c3 : c * z ≤ 242 ∧ 0 ≤ c * z := by
    rcases (show c = 0 ∨ c = 1 ∨ c = 2 by omega) with rfl | rfl | rfl <;> omega
  have d3 : md < x → 0 ≤ u * (x - md) ∧ u * (x - md) ≤ 33 := fun h => by
    rcases (show u = 0 ∨ u = 1 ∨ u = 2 ∨ u = 3 by omega) with rfl | rfl | rfl | rfl <;> omega
  have d4 : ¬ md < x → 0 ≤ d * (md - x) ∧ d * (md - x) ≤ 33 := fun h => by
    rcases (show d = 0 ∨ d = 1 ∨ d = 2 ∨ d = 3 by omega) with rfl | rfl | rfl | rfl <;> omega
  split
  · have := d3 (by assumption); omega
  · have := d4 (by assumption); omega
section
variable {R : DL.N → En → Prop} {Z : Xc → En → Prop} {xs ys : List Int}
theorem sides_road {most : Int} {N : Nat} (hN : N + 5 ≤ LIM) (k : ∀ (m : Nat) (ss : List Int) (N' : Nat), N' ≤ N + 5 → SD m ss → ∀ (s : DL.N) (ρ : En), ρ[0]? = some (pT N') → (s = .dat (.list (ss.map .int)) ∨ s = .lst (ss.map .int)) → R s ρ) : dsp__law_sides [pT N, .v (.dat (.int most))] R Z := by
  unfold dsp__law_sides dspOf w__law_sides
  refine seq_step fun K hK => ?_
  walk_at "dl"
  refine ⟨by decide, pick_road (by decide) (by decide) (by omega) fun y y1 N1 hN1 ρ h0 => ?_⟩
  rw [h0]
  clear h0
  obtain ⟨m, rfl, hm⟩ : ∃ m : Nat, y = .int (m : Int) ∧ 1 ≤ m ∧ m ≤ 4 := by
    simp only [List.mem_cons, List.not_mem_nil, or_false] at y1
    rcases y1 with rfl | rfl | rfl | rfl | rfl | rfl | rfl
    · exact ⟨1, rfl, by decide⟩
    · exact ⟨2, rfl, by decide⟩
    · exact ⟨2, rfl, by decide⟩
    · exact ⟨2, rfl, by decide⟩
    · exact ⟨3, rfl, by decide⟩
    · exact ⟨3, rfl, by decide⟩
    · exact ⟨4, rfl, by decide⟩
  clear y1
  have hsM := sM_le hm
  refine hK _ ?_
  clear hK
  refine seq_step fun K hK => ?_
  walk_at "dl"
  refine ⟨by omega, ?_⟩
  refine lc_relN (ρ := [pT N1, .v (.dat (.int most)), .v (.dat (.int (m : Int))), .e, .e, .e, .e]) (enc := eN) 0 pT 1 PyData.int (fun _ x => 1 ≤ x ∧ x ≤ (sM m : Int)) (fun N => by walk_at "dl") (by rw [List.length_range]; omega) (fun i hi N hN k q => ?_) (by simp; omega) fun ss N2 hN2 h1 h2 => ?_
  · walk_at "dl"
    rw [atD_sM hm]
    refine ⟨by decide, dr_road (many := (sM m : Int)) (by omega) (by omega) hN fun r N' r1 hN' ρ h0 => ?_⟩
    rw [h0]
    clear h0
    walk_at "dl"
    exact q _ N' hN' ⟨by omega, by omega⟩
  rw [List.length_range] at hN2 h1
  rw [List.nil_append]
  have hS : SD m ss := ⟨hm, h1, fun x hx => by
    obtain ⟨i, hi, rfl⟩ := List.getElem_of_mem hx
    exact h2 ((List.range m)[i]'(by rw [List.length_range]; omega), ss[i]) (by
      have := List.getElem_zip (l := List.range m) (l' := ss) (i := i) (h := by rw [List.length_zip, List.length_range, h1]; omega)
      rw [← this]
      exact List.getElem_mem _)⟩
  clear h2
  walk_at "dl"
  refine hK _ ?_
  clear hK
  refine seq_step fun K hK => ?_
  walk_at "dl"
  refine hK _ ?_
  clear hK
  refine seq_step fun K hK => ?_
  refine for_step fun K2 hK2 => ?_
  walk_at "dl"
  refine hK2 _ _ (loop_foldN (enc := PyData.int) (fun n (t : Int) ρ => 0 ≤ t ∧ t ≤ 8 ^ n ∧ Fr1 (fun s6 => [pT N2, .v (.dat (.int most)), .v (.dat (.int (m : Int))), .v (.dat (.list (ss.map .int))), .e, .v (.dat (.int t)), s6]) ρ) (fun t a => t * a) m ss 1 0 (by omega) (fun x hx n hn t ρ hP K3 hK3 => ?_) (fun ρ hP => ?_) _ ⟨by decide, by decide, by walk_at "frm"⟩)
  · obtain ⟨t0, t1, hP⟩ := hP
    walk_at "opn"
    have hx := hS.sd x hx
    refine gN_step (by walk_at "dl") (by simp only [List.set_cons_succ, List.set_cons_zero]; rfl) ?_
    walk_at "dl"
    have p4 : (8 : Int) ^ n ≤ 512 := by
      rcases (show n = 0 ∨ n = 1 ∨ n = 2 ∨ n = 3 by omega) with rfl | rfl | rfl | rfl <;> decide
    refine ⟨by unfold CMul; omega, hK3 _ ⟨Int.mul_nonneg t0 (by omega), ?_, by walk_at "frm"⟩⟩
    rw [Int.pow_succ]
    exact Int.mul_le_mul t1 (by omega) (by omega) (by omega)
  · obtain ⟨t0, t1, hP⟩ := hP
    generalize List.foldl (fun t a => t * a) 1 ss = t at t0 t1 hP
    walk_at "opn"
    refine hK _ ?_
    clear hK hK2
    refine ret_step ?_
    walk_at "dl"
    split
    · exact k m ss N2 (by omega) hS _ _ rfl (.inl rfl)
    · refine ⟨by decide, ⟨by omega, by omega, by decide⟩, ?_⟩
      have e : (List.replicate m [PyData.int 2]).flatten = (List.replicate m (2 : Int)).map .int := by
        rw [List.map_replicate]
        exact List.flatten_replicate_singleton
      rw [e]
      exact k m (List.replicate m 2) N2 (by omega) ⟨hm, List.length_replicate .., fun x hx => by rw [(List.mem_replicate.mp hx).2]; omega⟩ _ _ rfl (.inr rfl)
theorem bend_road {d : Int} {N : Nat} (hd : 1 ≤ d ∧ d ≤ 4) (hN : N + 4 ≤ LIM) (k : ∀ b, BK b → ∀ N', N' ≤ N + 4 → ∀ ρ, ρ[0]? = some (pT N') → R (.dat (eB b)) ρ) : dsp__law_bend [pT N, .v (.dat (.int d))] R Z := by
  unfold dsp__law_bend dspOf w__law_bend
  refine ret_step ?_
  walk_at "dl"
  refine dr_road (by omega) (by omega) (by omega) fun r N1 r1 hN1 ρ h0 => ?_
  rw [h0]
  clear h0
  walk_at "dl"
  refine dr_road (by omega) (by omega) (by omega) fun r' N2 r1' hN2 ρ h0 => ?_
  rw [h0]
  clear h0
  walk_at "dl"
  refine dr_road (by omega) (by omega) (by omega) fun r2 N3 r12 hN3 ρ h0 => ?_
  rw [h0]
  clear h0
  walk_at "dl"
  refine dr_road (by omega) (by omega) (by omega) fun r3 N4 r13 hN4 ρ h0 => ?_
  rw [h0]
  clear h0
  walk_at "dl"
  refine ⟨by decide, ?_⟩
  exact k ((r : Int) - 1, (r' : Int), (r2 : Int), (r3 : Int)) ⟨by dsimp only; omega, by dsimp only; omega, by dsimp only; omega, by dsimp only; omega⟩ N4 (by omega) _ rfl
theorem bent_road {b : Bd} {x : Int} (B : BK b) (hx : -100 ≤ x ∧ x ≤ 100) (k : ∀ ρ, R (.dat (.int (bdW b x))) ρ) : dsp__law_bent [.v (.dat (eB b)), .v (.dat (.int x))] R Z := by
  obtain ⟨md, d, u, c⟩ := b
  obtain ⟨h1, h2, h3, h4⟩ := B
  dsimp only at h1 h2 h3 h4
  unfold dsp__law_bent dspOf w__law_bent
  refine seq_step fun K hK => ?_
  walk_at "dl"
  refine hK _ ?_
  clear hK
  refine ret_step ?_
  walk_at "dl"
  refine ⟨by unfold CMul; omega, ?_⟩
  refine ⟨by unfold CMul; omega, ?_⟩
  have e : bdW (md, d, u, c) x = c * (x - md) * (x - md) + if md < x then u * (x - md) else d * (md - x) := rfl
  by_cases h : md < x
  · rw [if_pos (by exact h)]
    rw [if_pos h] at e
    refine ⟨by unfold CMul; omega, ?_⟩
    rw [← e]
    exact k _
  · rw [if_neg (by exact h)]
    rw [if_neg h] at e
    refine ⟨by unfold CMul; omega, ?_⟩
    rw [← e]
    exact k _
end

/-! moved hills -/
section
variable {α : Type} {vs : List Nat} {g : WG} {te : WE} {Q : DL.N → En → Prop} {enc : α → PyData}
theorem lc_mapA (f : α → PyData) {ρ : En} (ok : vsOk ρ vs) : ∀ {l : List α} {acc : List PyData},
    (∀ a ∈ l, ∀ (k : PyData → En → Prop), k (f a) ρ → g (enc a) (wipeE ρ vs) fun ρ2 => te Z0 ρ2 fun n ρ4 => asD n fun e => k e (restE ρ vs ρ4)) → acc.length + l.length < 100000 →
    Q (.lst (acc ++ l.map f)) ρ → lcLoop vs g wYes te Q (l.map enc) ρ acc
  | [], acc, _, _, q => by rw [List.map_nil, List.append_nil] at q; exact q
  | a :: l, acc, h, hl, q => by
    rw [List.length_cons] at hl
    refine ⟨ok, ?_⟩
    have z := h a List.mem_cons_self (fun e ρ' => acc.length < 100000 ∧ lcLoop vs g wYes te Q (l.map enc) ρ' (acc ++ [e])) ⟨by omega, lc_mapA f ok (fun a ha => h a (List.mem_cons_of_mem _ ha)) (by rw [List.length_append]; simp only [List.length_cons, List.length_nil]; omega) (by rw [List.append_assoc]; exact q)⟩
    simpa only [wYes, if_true] using z
/-- the first item freezes what is read -/
theorem lc_frz (f : α → PyData) {ρ ρ' : En} (ok : vsOk ρ vs) (ok' : vsOk ρ' vs) : ∀ {l : List α}, l ≠ [] →
    (∀ a ∈ l, ∀ (k : PyData → En → Prop), k (f a) ρ' → g (enc a) (wipeE ρ vs) fun ρ2 => te Z0 ρ2 fun n ρ4 => asD n fun e => k e (restE ρ vs ρ4)) →
    (∀ a ∈ l, ∀ (k : PyData → En → Prop), k (f a) ρ' → g (enc a) (wipeE ρ' vs) fun ρ2 => te Z0 ρ2 fun n ρ4 => asD n fun e => k e (restE ρ' vs ρ4)) → l.length < 100000 →
    Q (.lst (l.map f)) ρ' → lcLoop vs g wYes te Q (l.map enc) ρ []
  | [], ne, _, _, _, _ => absurd rfl ne
  | a :: l, _, h1, h2, hl, q => by
    rw [List.length_cons] at hl
    refine ⟨ok, ?_⟩
    have z := h1 a List.mem_cons_self (fun e ρ' => ([] : List PyData).length < 100000 ∧ lcLoop vs g wYes te Q (l.map enc) ρ' ([] ++ [e])) ⟨by decide, lc_mapA f ok' (fun a ha => h2 a (List.mem_cons_of_mem _ ha)) (by simp only [List.length_append, List.length_cons, List.length_nil]; omega) q⟩
    simpa only [wYes, if_true] using z
end
section
variable {α : Type} {Z : KX} {D : DE} {g : WG} {b : WS}
/-- a loop over range(N) -/
theorem loop_from (P : Nat → En → Prop) (N : Nat) : ∀ (k s : Nat), s + k = N → (∀ n, n < N → ∀ ρ, P n ρ → ∀ K : En → Prop, (∀ ρ', P (n + 1) ρ' → K ρ') → g (eN n) ρ fun ρ1 => b Z { D with nx := K, ct := K, bk := D.nx } ρ1) →
    (∀ ρ, P N ρ → D.nx ρ) → ∀ ρ, P s ρ → wLoop Z D g b ((List.range' s k).map eN) ρ
  | 0, s, e, _, fin, ρ, h => fin ρ (by rw [← e]; exact h)
  | k + 1, s, e, step, fin, ρ, h => step s (by omega) ρ h (wLoop Z D g b ((List.range' (s + 1) k).map eN)) fun ρ' h' => loop_from P N k (s + 1) (by omega) step fin ρ' h'
theorem loop_range (P : Nat → En → Prop) (N : Nat) (step : ∀ n, n < N → ∀ ρ, P n ρ → ∀ K : En → Prop, (∀ ρ', P (n + 1) ρ' → K ρ') → g (eN n) ρ fun ρ1 => b Z { D with nx := K, ct := K, bk := D.nx } ρ1)
    (fin : ∀ ρ, P N ρ → D.nx ρ) (ρ : En) (h : P 0 ρ) : wLoop Z D g b ((List.range N).map eN) ρ := by
  rw [List.range_eq_range']
  exact loop_from P N N 0 (Nat.zero_add _) step fin ρ h
end
def mvA (p st : List Int) : Pt := (List.zip p st).map fun t => t.1 + t.2
def shf (st : List Int) (h : Hl) : Hl := h.map fun p => (mvA p.1 st, p.2)
theorem mvA_len {p st : List Int} (e : p.length = st.length) : (mvA p st).length = p.length := by unfold mvA; rw [List.length_map, List.length_zip]; omega
theorem gI_mvA {p st : List Int} {i : Nat} (h1 : i < p.length) (h2 : i < st.length) : gI (mvA p st) i = gI p i + gI st i := by
  unfold mvA
  rw [gI_at (by rw [List.length_map, List.length_zip]; omega), List.getElem_map, List.getElem_zip, gI_at h1, gI_at h2]
theorem mvA_in {p st : List Int} (e : p.length = st.length) {lo hi : Int} (h : ∀ i < p.length, lo ≤ gI p i + gI st i ∧ gI p i + gI st i ≤ hi) : DL.inR lo hi (mvA p st) := fun x hx => by
  obtain ⟨i, hi, rfl⟩ := List.getElem_of_mem hx
  have l := mvA_len e
  have := h i (by omega)
  rw [← gI_mvA (by omega) (by omega), gI_at hi] at this
  exact this
theorem mvA_inj {p q st : List Int} (e1 : p.length = st.length) (e2 : q.length = st.length) (h : mvA p st = mvA q st) : p = q := by
  refine List.ext_getElem (by omega) fun i i1 i2 => ?_
  have a := gI_mvA (p := p) (st := st) (i := i) (by omega) (by omega)
  have b := gI_mvA (p := q) (st := st) (i := i) (by omega) (by omega)
  rw [h] at a
  rw [← gI_at i1, ← gI_at i2]
  omega
theorem gI_app {xs ys : List Int} {i : Nat} (h : i < xs.length) : gI (xs ++ ys) i = gI xs i := by
  rw [gI_at (by rw [List.length_append]; omega), gI_at h, List.getElem_append_left h]
theorem gI_end {xs : List Int} {x : Int} {n : Nat} (h : xs.length = n) : gI (xs ++ [x]) n = x := by
  subst h
  rw [gI_at (by simp)]
  simp
def colI (h : Hl) (n : Nat) : List Int := h.map fun p => gI p.1 n
theorem col_lo {h : Hl} {n : Nat} (ne : h ≠ []) {lo hi : Int} (b : ∀ p ∈ h, lo ≤ gI p.1 n ∧ gI p.1 n ≤ hi) : lo ≤ loI (colI h n) ∧ hiI (colI h n) ≤ hi ∧ loI (colI h n) ≤ hi ∧ lo ≤ hiI (colI h n) ∧ ∀ p ∈ h, loI (colI h n) ≤ gI p.1 n ∧ gI p.1 n ≤ hiI (colI h n) := by
  have ne2 : colI h n ≠ [] := fun e => ne (List.map_eq_nil_iff.mp e)
  have a : ∀ p ∈ h, loI (colI h n) ≤ gI p.1 n ∧ gI p.1 n ≤ hiI (colI h n) := fun p hp => ⟨(loI_le ne2).mp (Int.le_refl _) _ (List.mem_map_of_mem hp), (hiI_le ne2).mp (Int.le_refl _) _ (List.mem_map_of_mem hp)⟩
  obtain ⟨p, hp⟩ := List.exists_mem_of_ne_nil _ ne
  have a1 := a p hp
  have b1 := b p hp
  refine ⟨(loI_le ne2).mpr fun x hx => ?_, (hiI_le ne2).mpr fun x hx => ?_, by omega, by omega, a⟩
  · obtain ⟨q, hq, rfl⟩ := List.mem_map.mp hx
    exact (b q hq).1
  · obtain ⟨q, hq, rfl⟩ := List.mem_map.mp hx
    exact (b q hq).2
section
variable {R : DL.N → En → Prop} {Z : Xc → En → Prop} {xs ys : List Int}
theorem shift_road {h : Hl} {m N : Nat} (hm : 1 ≤ m ∧ m ≤ 4) (hl : h.length ≤ 1000) (ne : h ≠ []) (pl : ∀ p ∈ h, p.1.length = m) (pt : ∀ p ∈ h, DL.inR 0 7 p.1) (hN : N + 5 ≤ LIM)
    (k : ∀ st : List Int, st.length = m → (∀ p ∈ h, DL.inR (-20) 20 (mvA p.1 st)) → ∀ N', N' ≤ N + 5 → ∀ ρ, ρ[0]? = some (pT N') → R (.dat (tH (shf st h))) ρ) : dsp__law_shift [pT N, .v (.dat (lH h))] R Z := by
  unfold dsp__law_shift dspOf w__law_shift
  have h0l : 0 < h.length := List.length_pos_iff.mpr ne
  refine seq_step fun K hK => ?_
  walk_at "dl"
  have e0 : ∀ kk : PyData → Prop, atD (h.map eH) 0 kk = kk (eH h[0]) := fun kk => by
    have := atD_nat (ds := h.map eH) (i := 0) (k := kk) (by rw [List.length_map]; exact h0l)
    rw [List.getElem_map] at this
    exact this
  rw [e0]
  walk_at "dl"
  have pl0 := pl h[0] (List.getElem_mem _)
  rw [pl0]
  refine hK _ ?_
  clear hK e0
  refine seq_step fun K hK => ?_
  walk_at "dl"
  refine lc_map (enc := eH) (fun p => tI p.1) (by walk_at "dl") (fun p hp k q => ?_) (by omega) ?_
  · walk_at "dl"
    exact q
  walk_at "dl"
  refine hK _ ?_
  clear hK
  refine seq_step fun K hK => ?_
  walk_at "dl"
  refine dr_road (by omega) (by omega) (by omega) fun far N1 far1 hN1 ρ h0 => ?_
  rw [h0]
  clear h0
  walk_at "dl"
  refine hK _ ?_
  clear hK
  refine seq_step fun K hK => ?_
  walk_at "dl"
  refine ⟨by decide, hK _ ?_⟩
  clear hK
  refine seq_step fun K hK => for_step fun K2 hK2 => ?_
  walk_at "dl"
  refine ⟨by omega, hK2 _ _ (loop_range (fun n ρ => ∃ (st : List Int) (N' : Nat), N' ≤ N1 + n ∧ st.length = n ∧ (∀ p ∈ h, ∀ i < n, -20 ≤ gI p.1 i + gI st i ∧ gI p.1 i + gI st i ≤ 20) ∧ Fr3 (fun s8 s9 s10 => [pT N', .v (.dat (lH h)), .v (.dat (.int (m : Int))), .v (.dat (.list (h.map fun p => tI p.1))), .e, .e, .v (.dat (.int (far : Int))), .v (.lst (st.map .int)), s8, s9, s10, .e, .e, .e]) ρ) m (fun n hn ρ hP K3 hK3 => ?_) (fun ρ hP => ?_) _ ⟨[], N1, by omega, rfl, (fun p hp i hi => absurd hi (Nat.not_lt_zero _)), by walk_at "frm"⟩)⟩
  · obtain ⟨st, N', hN', sl, sb, hP⟩ := hP
    walk_at "opn"
    refine gN_step (by walk_at "dl") (by simp only [List.set_cons_succ, List.set_cons_zero]; rfl) ?_
    have hcol := col_lo (h := h) (n := n) ne (lo := 0) (hi := 7) fun p hp => pt p hp _ (gI_mem (by have := pl p hp; omega))
    refine seq_step fun K4 hK4 => ?_
    walk_at "dl"
    refine lc_ints (enc := fun p : Pt × Int => tI p.1) (fun p => gI p.1 n) (by walk_at "dl") (fun p hp k q => ?_) (by omega) ?_
    · walk_at "dl"
      rw [atD_g (by have := pl p hp; omega)]
      exact q
    walk_at "dl"
    refine mn_list (xs := colI h n) (fun e => ne (List.map_eq_nil_iff.mp e)) ?_
    walk_at "dl"
    refine lc_ints (enc := fun p : Pt × Int => tI p.1) (fun p => gI p.1 n) (by walk_at "dl") (fun p hp k q => ?_) (by omega) ?_
    · walk_at "dl"
      rw [atD_g (by have := pl p hp; omega)]
      exact q
    walk_at "dl"
    refine mx_list (xs := colI h n) (fun e => ne (List.map_eq_nil_iff.mp e)) ?_
    walk_at "dl"
    obtain ⟨c1, c2, c3, c4, c5⟩ := hcol
    generalize loI (colI h n) = lo at c1 c3 c5
    generalize hiI (colI h n) = hi at c2 c4 c5
    refine hK4 _ ?_
    clear hK4
    have J : ∀ (y : Int) (N2 : Nat), N2 ≤ N' + 1 → (y = 0 ∨ y = -20 - lo ∨ y = 20 - hi ∨ y = 1 ∨ y = -2 ∨ y = -lo) → K3 [pT N2, .v (.dat (lH h)), .v (.dat (.int (m : Int))), .v (.dat (.list (h.map fun p => tI p.1))), .e, .e, .v (.dat (.int (far : Int))), .v (.lst ((st ++ [y]).map .int)), .v (.dat (.int (n : Int))), .v (.dat (.int lo)), .v (.dat (.int hi)), .e, .e, .e] := fun y N2 hN2 hy => by
      refine hK3 _ ⟨st ++ [y], N2, by omega, by rw [List.length_append, sl]; rfl, fun p hp i hi => ?_, by walk_at "frm"⟩
      rcases (show i < n ∨ i = n by omega) with hi | rfl
      · rw [gI_app (by omega)]
        exact sb p hp i hi
      · rw [gI_end sl]
        have := c5 p hp
        have := pt p hp _ (gI_mem (show i < p.1.length by have := pl p hp; omega))
        rcases hy with rfl | rfl | rfl | rfl | rfl | rfl <;> omega
    clear hK3
    walk_at "dl"
    split
    · refine ⟨by decide, pick_road (by simp) (by simp) (by omega) fun y y1 N2 hN2 ρ h0 => ?_⟩
      rw [h0]
      clear h0
      obtain ⟨z, rfl, hz⟩ : ∃ z : Int, y = .int z ∧ (z = 0 ∨ z = -20 - lo ∨ z = 20 - hi ∨ z = 1 ∨ z = -2 ∨ z = -lo) := by
        simp only [List.mem_cons, List.not_mem_nil, or_false] at y1
        rcases y1 with rfl | rfl | rfl | rfl
        · exact ⟨_, rfl, .inl rfl⟩
        · exact ⟨_, rfl, .inl rfl⟩
        · exact ⟨_, rfl, .inr (.inl rfl)⟩
        · exact ⟨_, rfl, .inr (.inr (.inl rfl))⟩
      have := J z N2 hN2 hz
      rw [List.map_append] at this
      exact ⟨by omega, this⟩
    · refine ⟨by decide, pick_road (by simp) (by simp) (by omega) fun y y1 N2 hN2 ρ h0 => ?_⟩
      rw [h0]
      clear h0
      obtain ⟨z, rfl, hz⟩ : ∃ z : Int, y = .int z ∧ (z = 0 ∨ z = -20 - lo ∨ z = 20 - hi ∨ z = 1 ∨ z = -2 ∨ z = -lo) := by
        simp only [List.mem_cons, List.not_mem_nil, or_false] at y1
        rcases y1 with rfl | rfl | rfl | rfl
        · exact ⟨_, rfl, .inl rfl⟩
        · exact ⟨_, rfl, .inr (.inr (.inr (.inl rfl)))⟩
        · exact ⟨_, rfl, .inr (.inr (.inr (.inr (.inl rfl))))⟩
        · exact ⟨_, rfl, .inr (.inr (.inr (.inr (.inr rfl))))⟩
      have := J z N2 hN2 hz
      rw [List.map_append] at this
      exact ⟨by omega, this⟩
  · obtain ⟨st, N', hN', sl, sb, hP⟩ := hP
    walk_at "opn"
    refine hK _ ?_
    clear hK hK2
    refine ret_step ?_
    walk_at "dl"
    refine lc_frz (enc := eH) (ρ' := [pT N', .v (.dat (lH h)), .v (.dat (.int (m : Int))), .v (.dat (.list (h.map fun p => tI p.1))), .e, .e, .v (.dat (.int (far : Int))), .v (.dat (.list (st.map .int))), DL.lo o1, DL.lo o2, DL.lo o3, .e, .e, .e]) (fun p => eH (mvA p.1 st, p.2)) (by walk_at "dl") (by walk_at "dl") ne (fun p hp k q => ?_) (fun p hp k q => ?_) (by omega) ?_
    all_goals try
      have hpl := pl p hp
      walk_at "dl"
      rw [zip_i]
      refine lc_ints (enc := fun t : Int × Int => PyData.tuple [.int t.1, .int t.2]) (fun t => t.1 + t.2) (by walk_at "dl") (fun t ht k q => ?_) (by rw [List.length_zip]; omega) ?_
      · walk_at "dl"
        exact q
      walk_at "dl"
      exact ⟨by decide, q⟩
    walk_at "dl"
    rw [show h.map (fun p => eH (mvA p.1 st, p.2)) = (shf st h).map eH by unfold shf; rw [List.map_map]; rfl]
    exact k st sl (fun p hp => mvA_in ((pl p hp).trans sl.symm) fun i hi => sb p hp i (by have := pl p hp; omega)) N' (by omega) _ rfl
end

/-! hills that are drawn -/
def lWt (bs : List Bd) (ps : List (Nat × Nat × Bd)) (p : Pt) : Int := ((List.zip bs p).map fun t => bdW t.1 t.2).sum + (ps.map fun t => bdW t.2.2 (gI p t.1 - gI p t.2.1)).sum
abbrev ePr : Nat × Nat × Bd → PyData := fun t => .tuple [.int (t.1 : Int), .int (t.2.1 : Int), eB t.2.2]
structure LRt (m : Nat) (ss : List Int) (bs : List Bd) (ps : List (Nat × Nat × Bd)) : Prop where
  sd : SD m ss
  bl : bs.length = m
  bk : ∀ b ∈ bs, BK b
  pk : ∀ t ∈ ps, t.1 < m ∧ t.2.1 < m ∧ BK t.2.2
  pn : ps.length ≤ 16
abbrev lRaw (m : Nat) (ss : List Int) (bs : List Bd) (ps : List (Nat × Nat × Bd)) : Hl := (bxS m ss).map fun p => (p, lWt bs ps p)
/-- all that is asked of a hill -/
structure HT (m : Nat) (h : Hl) : Prop where
  m4 : 1 ≤ m ∧ m ≤ 4
  ne : h ≠ []
  nd : (h.map (·.1)).Nodup
  hl : h.length ≤ 27
  hp : ∀ p ∈ h, p.1.length = m
  pt : ∀ p ∈ h, DL.inR (-20) 20 p.1
  wo : ∀ p ∈ h, -6000 ≤ p.2 ∧ p.2 ≤ 6000
def LHt (m : Nat) (h : Hl) : Prop := ∃ ss bs ps st, LRt m ss bs ps ∧ st.length = m ∧ h = shf st (lRaw m ss bs ps)
theorem sum_in {lo hi : Int} : ∀ {l : List Int}, (∀ x ∈ l, lo ≤ x ∧ x ≤ hi) → lo * l.length ≤ l.sum ∧ l.sum ≤ hi * l.length
  | [], _ => by simp
  | x :: l, h => by
    have ih := sum_in (l := l) fun y hy => h y (List.mem_cons_of_mem _ hy)
    have hx := h x List.mem_cons_self
    rw [List.sum_cons, List.length_cons, show lo * ((l.length + 1 : Nat) : Int) = lo * l.length + lo by rw [Int.natCast_add, Int.mul_add]; simp, show hi * ((l.length + 1 : Nat) : Int) = hi * l.length + hi by rw [Int.natCast_add, Int.mul_add]; simp]
    omega
theorem flat_rep (m : Nat) (x : Int) : (List.replicate m [PyData.int x]).flatten = (List.replicate m x).map .int := by
  rw [List.map_replicate]
  exact List.flatten_replicate_singleton
theorem LRt.wo {m : Nat} {ss : List Int} {bs : List Bd} {ps : List (Nat × Nat × Bd)} (L : LRt m ss bs ps) {p : Pt} (hp : p ∈ bxS m ss) : 0 ≤ lWt bs ps p ∧ lWt bs ps p ≤ 6000 := by
  obtain ⟨h1, h2⟩ := L.sd.in7 hp
  have hs := sM_le L.sd.m4
  have a := sum_in (lo := 0) (hi := 300) (l := (List.zip bs p).map fun t => bdW t.1 t.2) fun x hx => by
    obtain ⟨t, ht, rfl⟩ := List.mem_map.mp hx
    have := h2 _ (List.of_mem_zip ht).2
    exact bdW_in (L.bk _ (List.of_mem_zip ht).1) (by omega)
  have b := sum_in (lo := 0) (hi := 300) (l := ps.map fun t => bdW t.2.2 (gI p t.1 - gI p t.2.1)) fun x hx => by
    obtain ⟨t, ht, rfl⟩ := List.mem_map.mp hx
    obtain ⟨t1, t2, t3⟩ := L.pk t ht
    have := h2 _ (gI_mem (show t.1 < p.length by omega))
    have := h2 _ (gI_mem (show t.2.1 < p.length by omega))
    exact bdW_in t3 (by omega)
  rw [List.length_map] at a b
  rw [List.length_zip] at a
  have := L.bl
  have := L.pn
  have := L.sd.m4
  unfold lWt
  have : (min bs.length p.length : Nat) ≤ 4 := by omega
  omega
theorem boxS_nd {m : Nat} {ss : List Int} : (bxS m ss).Nodup := (boxL_sort _ _).imp fun h e => by rw [e] at h; exact List.lt_irrefl _ h
theorem shf_HT {m : Nat} {h : Hl} {st : List Int} (hm : 1 ≤ m ∧ m ≤ 4) (ne : h ≠ []) (hl : h.length ≤ 27) (nd : (h.map (·.1)).Nodup) (sl : st.length = m) (pl : ∀ p ∈ h, p.1.length = m) (pt : ∀ p ∈ h, DL.inR (-20) 20 (mvA p.1 st)) (wo : ∀ p ∈ h, -6000 ≤ p.2 ∧ p.2 ≤ 6000) : HT m (shf st h) := by
  refine ⟨hm, fun e => ne (List.map_eq_nil_iff.mp e), ?_, by unfold shf; rw [List.length_map]; exact hl, fun p hp => ?_, fun p hp => ?_, fun p hp => ?_⟩
  · unfold shf
    rw [List.map_map, List.Nodup, List.pairwise_map]
    rw [List.Nodup, List.pairwise_map] at nd
    refine List.Pairwise.imp_of_mem (fun {p q} hp hq hd e => hd ?_) nd
    exact mvA_inj (by rw [pl p hp, sl]) (by rw [pl q hq, sl]) e
  all_goals
    obtain ⟨q, hq, rfl⟩ := List.mem_map.mp hp
  · show (mvA q.1 st).length = m
    rw [mvA_len (by rw [pl q hq, sl]), pl q hq]
  · exact pt q hq
  · exact wo q hq
theorem LRt.facts {m : Nat} {ss : List Int} {bs : List Bd} {ps : List (Nat × Nat × Bd)} (L : LRt m ss bs ps) : lRaw m ss bs ps ≠ [] ∧ (lRaw m ss bs ps).length ≤ 27 ∧ ((lRaw m ss bs ps).map (·.1)).Nodup ∧ (∀ p ∈ lRaw m ss bs ps, p.1.length = m) ∧ (∀ p ∈ lRaw m ss bs ps, DL.inR 0 7 p.1) ∧ ∀ p ∈ lRaw m ss bs ps, -6000 ≤ p.2 ∧ p.2 ≤ 6000 := by
  refine ⟨?_, by rw [List.length_map]; exact L.sd.sm, ?_, fun p hp => ?_, fun p hp => ?_, fun p hp => ?_⟩
  · have : zer m ∈ bxS m ss := L.sd.pt.mpr ⟨List.length_replicate .., fun i hi => by
      rw [gI_rep hi]
      have := L.sd.ln
      have := L.sd.sd (gI ss i) (gI_mem (by omega))
      omega⟩
    exact List.ne_nil_of_mem (List.mem_map_of_mem this)
  · rw [List.map_map]
    show ((bxS m ss).map id).Nodup
    rw [List.map_id]
    exact boxS_nd
  all_goals
    obtain ⟨q, hq, rfl⟩ := List.mem_map.mp hp
    have := L.sd.in7 hq
    have hs := sM_le L.sd.m4
  · exact this.1
  · intro x hx
    have := this.2 x hx
    omega
  · have := L.wo hq
    try dsimp only
    omega
section
variable {R : DL.N → En → Prop} {Z : Xc → En → Prop} {xs ys : List Int}
theorem l_hill_road {most : Int} {N : Nat} (hN : N + 100 ≤ LIM) (k : ∀ (m : Nat) (h : Hl), LHt m h → HT m h → ∀ N', N' ≤ N + 100 → ∀ ρ, ρ[0]? = some (pT N') → R (.dat (tH h)) ρ) : dsp__law_l_hill [pT N, .v (.dat (.int most))] R Z := by
  unfold dsp__law_l_hill dspOf w__law_l_hill
  refine seq_step fun K hK => ?_
  have J : ∀ (m : Nat) (ss : List Int) (N' : Nat), N' ≤ N + 5 → SD m ss → K [pT N', .v (.dat (.int most)), .v (.dat (.list (ss.map .int))), .e, .e, .e, .e, .e, .e, .e, .e, .e, .e, .e, .e] := fun m ss N1 hN1 hS => by
    have hm := hS.m4
    have sl := hS.ln
    refine hK _ ?_
    clear hK
    refine seq_step fun K hK => ?_
    walk_at "dl"
    rw [sl]
    refine hK _ ?_
    clear hK
    refine seq_step fun K hK => ?_
    walk_at "dl"
    refine ⟨by omega, ?_⟩
    refine lc_relN (ρ := [pT N1, .v (.dat (.int most)), .v (.dat (.list (ss.map .int))), .v (.dat (.int (m : Int))), .e, .e, .e, .e, .e, .e, .e, .e, .e, .e, .e]) (enc := eN) 0 pT 4 eB (fun _ b => BK b) (fun N => by walk_at "dl") (by rw [List.length_range]; omega) (fun i hi N hN k q => ?_) (by simp; omega) fun bs N2 hN2 h1 h2 => ?_
    · walk_at "dl"
      refine bend_road (by decide) hN fun b hb N' hN' ρ h0 => ?_
      rw [h0]
      clear h0
      walk_at "dl"
      exact q b N' hN' hb
    rw [List.length_range] at hN2 h1
    rw [List.nil_append]
    have hB : ∀ b ∈ bs, BK b := fun x hx => by
      obtain ⟨i, hi, rfl⟩ := List.getElem_of_mem hx
      exact h2 ((List.range m)[i]'(by rw [List.length_range]; omega), bs[i]) (by
        have := List.getElem_zip (l := List.range m) (l' := bs) (i := i) (h := by rw [List.length_zip, List.length_range, h1]; omega)
        rw [← this]
        exact List.getElem_mem _)
    clear h2
    walk_at "dl"
    refine hK _ ?_
    clear hK
    refine seq_step fun K hK => ?_
    walk_at "dl"
    refine ⟨by decide, by decide, hK _ ?_⟩
    clear hK
    refine seq_step fun K hK => for_step fun K2 hK2 => ?_
    walk_at "dl"
    refine ⟨by omega, hK2 _ _ (loop_range (fun n ρ => ∃ (ps : List (Nat × Nat × Bd)) (N' : Nat), N' ≤ N2 + 15 * n ∧ ps.length ≤ 4 * n ∧ (∀ t ∈ ps, t.1 < m ∧ t.2.1 < m ∧ BK t.2.2) ∧ Fr2 (fun s8 s9 => [pT N', .v (.dat (.int most)), .v (.dat (.list (ss.map .int))), .v (.dat (.int (m : Int))), .v (.dat (.list (bs.map eB))), .e, .v (.lst (ps.map ePr)), .v (.lst []), s8, s9, .e, .e, .e, .e, .e]) ρ) m (fun n hn ρ hP K3 hK3 => ?_) (fun ρ hP => ?_) _ ⟨[], N2, by omega, by simp, (fun t ht => nomatch ht), by walk_at "frm"⟩)⟩
    · obtain ⟨ps, N', hN', pl, pk, hP⟩ := hP
      walk_at "opn"
      refine gN_step (by walk_at "dl") (by simp only [List.set_cons_succ, List.set_cons_zero]; rfl) ?_
      walk_at "dl"
      refine ⟨by omega, ?_⟩
      refine lc_pickN (ρ := [pT N', .v (.dat (.int most)), .v (.dat (.list (ss.map .int))), .v (.dat (.int (m : Int))), .v (.dat (.list (bs.map eB))), .e, .v (.lst (ps.map ePr)), .v (.lst []), .v (.dat (.int (n : Int))), DL.lo o2, .e, .e, .e, .e, .e]) (enc := eN) 0 pT 5 (fun t => ePr (t.1, n, t.2)) (fun _ b => BK b) (fun N => by walk_at "dl") (by rw [List.length_range]; omega) (fun i hi N hN k kn h1 h2 => ?_) (by simp; omega) fun qs N4 hN4 h1 h2 => ?_
      · walk_at "dl"
        refine dr_road (by decide) (by decide) (by omega) fun r N5 r1 hN5 ρ h0 => ?_
        rw [h0]
        clear h0
        walk_at "dl"
        split
        · refine bend_road (by decide) (by omega) fun b hb N' hN' ρ h0 => ?_
          rw [h0]
          clear h0
          walk_at "dl"
          exact ⟨by decide, h1 b N' (by omega) hb⟩
        · exact h2 N5 (by omega)
      rw [List.length_range] at hN4
      have ql := h1.length_le
      rw [List.length_map, List.length_range] at ql
      rw [List.nil_append]
      walk_at "dl"
      refine ⟨by omega, hK3 _ ⟨ps ++ qs.map fun t => (t.1, n, t.2), N4, by omega, by rw [List.length_append, List.length_map]; omega, fun t ht => ?_, ?_⟩⟩
      · rcases List.mem_append.mp ht with ht | ht
        · exact pk t ht
        · obtain ⟨u, hu, rfl⟩ := List.mem_map.mp ht
          have := List.mem_range.mp (h1.subset (List.mem_map_of_mem hu))
          exact ⟨by show u.1 < m; omega, hn, h2 u hu⟩
      · rw [show ps.map ePr ++ qs.map (fun t => ePr (t.1, n, t.2)) = (ps ++ qs.map fun t => (t.1, n, t.2)).map ePr by rw [List.map_append, List.map_map]; rfl]
        walk_at "frm"
    · obtain ⟨ps, N3, hN3, pl, pk, hP⟩ := hP
      have L : LRt m ss bs ps := ⟨hS, h1, hB, pk, by omega⟩
      walk_at "opn"
      refine hK _ ?_
      clear hK hK2
      refine seq_step fun K hK => for_step fun K2 hK2 => ?_
      walk_at "dl"
      refine ⟨by decide, ⟨by omega, by omega, by decide⟩, ?_⟩
      refine lc_ints (enc := PyData.int) (fun x => x - 1) (by walk_at "dl") (fun x hx k q => ?_) (by omega) ?_
      · walk_at "dl"
        exact q
      walk_at "dl"
      rw [flat_rep]
      refine box_road hS.len (by rw [List.length_replicate]; omega) hS.zp fun ρ => ?_
      walk_at "dl"
      have bl27 := hS.sm
      have plk := L.pn
      refine hK2 _ _ (loop_foldN (enc := tI) (fun n (acc : Hl) ρ => acc.length = n ∧ ∃ s6, (s6 = .v (.lst (ps.map ePr)) ∨ s6 = .v (.dat (.list (ps.map ePr)))) ∧ Fr7 (fun s8 s9 s10 s11 s12 s13 s14 => [pT N3, .v (.dat (.int most)), .v (.dat (.list (ss.map .int))), .v (.dat (.int (m : Int))), .v (.dat (.list (bs.map eB))), .e, s6, .v (.lst (acc.map eH)), s8, s9, s10, s11, s12, s13, s14]) ρ) (fun acc p => acc ++ [(p, lWt bs ps p)]) (bxS m ss).length (bxS m ss) [] 0 (Nat.zero_add _) (fun p hp n hn acc ρ hP K3 hK3 => ?_) (fun ρ hP => ?_) _ ⟨rfl, _, .inl rfl, by walk_at "frm"⟩)
      · obtain ⟨ha, s6, hs6, hP⟩ := hP
        obtain ⟨p1, p2⟩ := hS.in7 hp
        have hsM := sM_le hm
        walk_at "opn"
        rcases hs6 with rfl | rfl
        all_goals
          refine gN_step (by walk_at "dl") (by simp only [List.set_cons_succ, List.set_cons_zero]; rfl) ?_
          refine seq_step fun K4 hK4 => ?_
          walk_at "dl"
          rw [show zipD (bs.map eB) (p.map .int) = (List.zip bs p).map fun t => PyData.tuple [eB t.1, .int t.2] by unfold zipD; rw [List.zipWith_map, List.zip_eq_zipWith, List.map_zipWith]]
          refine lc_ints (enc := fun t : Bd × Int => PyData.tuple [eB t.1, .int t.2]) (fun t => bdW t.1 t.2) (by walk_at "dl") (fun t ht k q => ?_) (by rw [List.length_zip]; omega) ?_
          · have hc := hB _ (List.of_mem_zip ht).1
            have hx := p2 _ (List.of_mem_zip ht).2
            walk_at "dl"
            refine bent_road hc (by omega) fun ρ => ?_
            exact q
          walk_at "dl"
          refine ⟨_, rfl, hK4 _ ?_⟩
          clear hK4
          walk_at "dl"
          refine lc_ints (enc := ePr) (fun t => bdW t.2.2 (gI p t.1 - gI p t.2.1)) (by walk_at "dl") (fun t ht k q => ?_) (by omega) ?_
          · obtain ⟨t1, t2, t3⟩ := pk t ht
            have x1 := p2 _ (gI_mem (show t.1 < p.length by omega))
            have x2 := p2 _ (gI_mem (show t.2.1 < p.length by omega))
            walk_at "dl"
            rw [atD_g (by omega), atD_g (by omega)]
            refine bent_road t3 (by omega) fun ρ => ?_
            exact q
          walk_at "dl"
          refine ⟨_, rfl, ?_⟩
          try dsimp only
          refine ⟨by decide, by omega, hK3 _ ⟨by rw [List.length_append, ha]; rfl, _, .inr rfl, ?_⟩⟩
          rw [show acc.map eH ++ [PyData.tuple [tI p, PyData.int ((List.map (fun t : Bd × Int => bdW t.1 t.2) (bs.zip p)).sum + (List.map (fun t : Nat × Nat × Bd => bdW t.2.2 (gI p t.1 - gI p t.2.1)) ps).sum)]] = (acc ++ [(p, lWt bs ps p)]).map eH by rw [List.map_append]; rfl]
          walk_at "frm"
      · obtain ⟨ha, s6, hs6, hP⟩ := hP
        have e2 : (bxS m ss).foldl (fun (acc : Hl) p => acc ++ [(p, lWt bs ps p)]) [] = lRaw m ss bs ps := by
          have : ∀ (l : List Pt) (s : Hl), l.foldl (fun (acc : Hl) p => acc ++ [(p, lWt bs ps p)]) s = s ++ l.map fun p => (p, lWt bs ps p) := fun l => by
            induction l with
            | nil => intro s; exact (List.append_nil s).symm
            | cons a l ih => intro s; rw [List.foldl_cons, ih, List.map_cons, List.append_assoc]; rfl
          exact this _ _
        rw [e2] at hP
        clear ha e2
        walk_at "opn"
        have F := L.facts
        refine hK _ ?_
        clear hK hK2
        refine ret_step ?_
        walk_at "dl"
        refine shift_road hm (by have := F.2.1; omega) F.1 F.2.2.2.1 F.2.2.2.2.1 (by omega) fun st sl sp N9 hN9 ρ h0 => ?_
        rw [h0]
        clear h0
        try dsimp only
        exact k m _ ⟨ss, bs, ps, st, L, sl, rfl⟩ (shf_HT hm F.1 F.2.1 F.2.2.1 sl F.2.2.2.1 sp F.2.2.2.2.2) N9 (by omega) _ rfl
  walk_at "dl"
  refine sides_road (by omega) fun m ss N1 hN1 hS s ρ h0 hs => ?_
  rw [h0]
  clear h0
  rcases hs with rfl | rfl
  · exact J m ss N1 hN1 hS
  · exact J m ss N1 hN1 hS
end

/-! hills of kind M -/
theorem aC_st {w : DL.WX} {ws : WA} {Z : KX} {ρ : En} {Q : List Ar → En → Prop} (h : ∀ Q1 : Ar → En → Prop, (∀ a ρ1, (ws Z ρ1 fun as ρ2 => Q (a :: as) ρ2) → Q1 a ρ1) → w Z ρ Q1) : aCons w ws Z ρ Q := h _ fun _ _ q => q
theorem lst_st {ws : WA} {Z : KX} {ρ : En} {Q : DL.N → En → Prop} (h : ∀ Q1 : List Ar → En → Prop, (∀ as ρ1, (match datas as with
  | some ds => ds.length ≤ 100000 ∧ Q (.lst ds) ρ1
  | none => False) → Q1 as ρ1) → ws Z ρ Q1) : wLst ws Z ρ Q := h _ fun _ _ q => q
theorem set_st {i : Nat} {w : WE} {Z : KX} {D : DE} {ρ : En} (h : ∀ Q1 : DL.N → En → Prop, (∀ n ρ1, (asD n fun d => notP ρ1 i ∧ D.nx (ρ1.set i (.v (.dat d)))) → Q1 n ρ1) → w Z ρ Q1) : sSet i w Z D ρ := h _ fun _ _ q => q
theorem call_st {np : Nat} {ds : DSp} {ws : WA} {Z : KX} {ρ : En} {Q : DL.N → En → Prop} (h : ∀ Q1 : List Ar → En → Prop, (∀ as ρ1, (as.length = np ∧ (lentI as).Nodup ∧ ds (argE ρ1 as) (fun n ρ' => Q n (backE ρ' 0 as ρ1)) fun x ρ' => Z x (backE ρ' 0 as ρ1)) → Q1 as ρ1) → ws Z ρ Q1) : wCall np ds ws Z ρ Q := h _ fun _ _ q => q
theorem xD_st {w : WE} {Z : KX} {ρ : En} {Q : Ar → En → Prop} (h : ∀ Q1 : DL.N → En → Prop, (∀ n ρ1, (asD n fun d => Q (.d d) ρ1) → Q1 n ρ1) → w Z ρ Q1) : xD w Z ρ Q := h _ fun _ _ q => q
def lsum (x : List Int) (lot : List Nat) : Int := (lot.map (gI x)).sum
def mWt (bs : List Bd) (ls : List (List Nat × Bd)) (p : Pt) : Int := ((List.zip bs p).map fun t => bdW t.1 t.2).sum + (ls.map fun t => bdW t.2 (lsum p t.1)).sum
abbrev eLt : List Nat × Bd → PyData := fun t => .tuple [.list (t.1.map eN), eB t.2]
structure MRt (m : Nat) (ss : List Int) (bs : List Bd) (od : List Nat) (ls : List (List Nat × Bd)) (lo hi : Int) : Prop where
  sd : SD m ss
  bl : bs.length = m
  bk : ∀ b ∈ bs, BK b
  op : od.Perm (List.range m)
  lk : ∀ t ∈ ls, (∃ s, 2 ≤ s ∧ s ≤ m ∧ t.1 = od.take s) ∧ BK t.2
  ln : ls.length ≤ 8
  l0 : 0 ≤ lo ∧ lo ≤ 1
  lt : lo ≤ (one1 ss).sum
  lh : lo ≤ hi
abbrev mRaw (m : Nat) (ss : List Int) (bs : List Bd) (ls : List (List Nat × Bd)) (lo hi : Int) : Hl := ((bxS m ss).filter fun p => decide (lo ≤ p.sum) && decide (p.sum ≤ hi)).map fun p => (p, mWt bs ls p)
def MHt (m : Nat) (h : Hl) : Prop := ∃ ss bs od ls lo hi st, MRt m ss bs od ls lo hi ∧ st.length = m ∧ h = shf st (mRaw m ss bs ls lo hi)
theorem MRt.lot {m : Nat} {ss : List Int} {bs : List Bd} {od : List Nat} {ls : List (List Nat × Bd)} {lo hi : Int} (M : MRt m ss bs od ls lo hi) : ∀ t ∈ ls, (∀ i ∈ t.1, i < m) ∧ t.1.length ≤ m := fun t ht => by
  obtain ⟨⟨s, s1, s2, e⟩, _⟩ := M.lk t ht
  rw [e]
  refine ⟨fun i hi => List.mem_range.mp (M.op.subset (List.mem_of_mem_take hi)), ?_⟩
  have := M.op.length_eq
  rw [List.length_range] at this
  rw [List.length_take]
  omega
theorem lsum_in {m : Nat} {ss : List Int} (S : SD m ss) {p : Pt} (hp : p ∈ bxS m ss) {lot : List Nat} (hl : (∀ i ∈ lot, i < m) ∧ lot.length ≤ m) : 0 ≤ lsum p lot ∧ lsum p lot ≤ 8 := by
  obtain ⟨p1, p2⟩ := S.in7 hp
  have hs := sM_le S.m4
  have := sum_in (lo := 0) (hi := (sM m : Int) - 1) (l := lot.map (gI p)) fun x hx => by
    obtain ⟨i, hi, rfl⟩ := List.mem_map.mp hx
    have h1 := hl.1 i hi
    exact p2 _ (gI_mem (by omega))
  rw [List.length_map] at this
  unfold lsum
  have e : ((sM m : Int) - 1) * (lot.length : Int) ≤ 8 := by
    have a := Nat.mul_le_mul hl.2 (Nat.le_refl (sM m - 1))
    have b : ((sM m - 1 : Nat) : Int) = (sM m : Int) - 1 := by omega
    rw [← b]
    have c : lot.length * (sM m - 1) ≤ 8 := Nat.le_trans a hs.2.2
    rw [Int.mul_comm]
    exact_mod_cast c
  omega
theorem MRt.wo {m : Nat} {ss : List Int} {bs : List Bd} {od : List Nat} {ls : List (List Nat × Bd)} {lo hi : Int} (M : MRt m ss bs od ls lo hi) {p : Pt} (hp : p ∈ bxS m ss) : 0 ≤ mWt bs ls p ∧ mWt bs ls p ≤ 6000 := by
  obtain ⟨h1, h2⟩ := M.sd.in7 hp
  have hs := sM_le M.sd.m4
  have a := sum_in (lo := 0) (hi := 300) (l := (List.zip bs p).map fun t => bdW t.1 t.2) fun x hx => by
    obtain ⟨t, ht, rfl⟩ := List.mem_map.mp hx
    have := h2 _ (List.of_mem_zip ht).2
    exact bdW_in (M.bk _ (List.of_mem_zip ht).1) (by omega)
  have b := sum_in (lo := 0) (hi := 300) (l := ls.map fun t => bdW t.2 (lsum p t.1)) fun x hx => by
    obtain ⟨t, ht, rfl⟩ := List.mem_map.mp hx
    have := lsum_in M.sd hp (M.lot t ht)
    exact bdW_in (M.lk t ht).2 (by omega)
  rw [List.length_map] at a b
  rw [List.length_zip] at a
  have := M.bl
  have := M.ln
  have := M.sd.m4
  unfold mWt
  have : (min bs.length p.length : Nat) ≤ 4 := by omega
  omega
theorem sum_unit : ∀ (m i : Nat), i < m → (((List.range m).map fun j => if j = i then (1 : Int) else 0)).sum = 1
  | 0, i, h => absurd h (Nat.not_lt_zero _)
  | m + 1, i, h => by
    rw [List.range_succ, List.map_append, List.sum_append]
    by_cases c : i = m
    · subst c
      have : (List.range i).map (fun j => if j = i then (1 : Int) else 0) = List.replicate i 0 := by
        refine List.eq_replicate_iff.mpr ⟨by simp, fun x hx => ?_⟩
        obtain ⟨j, hj, rfl⟩ := List.mem_map.mp hx
        have := List.mem_range.mp hj
        rw [if_neg (by omega)]
      rw [this, List.sum_replicate_int]
      simp
    · rw [sum_unit m i (by omega), List.map_cons, List.map_nil, if_neg (by omega)]
      rfl
theorem MRt.facts {m : Nat} {ss : List Int} {bs : List Bd} {od : List Nat} {ls : List (List Nat × Bd)} {lo hi : Int} (M : MRt m ss bs od ls lo hi) : mRaw m ss bs ls lo hi ≠ [] ∧ (mRaw m ss bs ls lo hi).length ≤ 27 ∧ ((mRaw m ss bs ls lo hi).map (·.1)).Nodup ∧ (∀ p ∈ mRaw m ss bs ls lo hi, p.1.length = m) ∧ (∀ p ∈ mRaw m ss bs ls lo hi, DL.inR 0 7 p.1) ∧ ∀ p ∈ mRaw m ss bs ls lo hi, -6000 ≤ p.2 ∧ p.2 ≤ 6000 := by
  have S := M.sd
  have sl := S.ln
  refine ⟨?_, by rw [List.length_map]; exact Nat.le_trans (List.length_filter_le _ _) S.sm, ?_, fun p hp => ?_, fun p hp => ?_, fun p hp => ?_⟩
  · suffices h : ∃ p ∈ bxS m ss, p.sum = lo by
      obtain ⟨p, hp, e⟩ := h
      refine List.ne_nil_of_mem (List.mem_map_of_mem (List.mem_filter.mpr ⟨hp, ?_⟩))
      have := M.lh
      rw [e, Bool.and_eq_true, decide_eq_true_eq, decide_eq_true_eq]
      omega
    have one : ∀ i < m, 1 ≤ gI ss i := fun i hi => (S.sd _ (gI_mem (by omega))).1
    by_cases c : lo = 0
    · refine ⟨zer m, S.pt.mpr ⟨List.length_replicate .., fun i hi => ?_⟩, by rw [c, List.sum_replicate_int]; simp⟩
      rw [gI_rep hi]
      have := one i hi
      omega
    · have l1 : lo = 1 := by have := M.l0; omega
      have lt := M.lt
      obtain ⟨i, hi, h2⟩ : ∃ i, i < m ∧ 2 ≤ gI ss i := by
        refine Classical.byContradiction fun no => ?_
        have := sum_in (lo := 0) (hi := 0) (l := one1 ss) fun x hx => by
          obtain ⟨y, hy, rfl⟩ := List.mem_map.mp hx
          obtain ⟨i, hi, rfl⟩ := List.getElem_of_mem hy
          have a := one i (by omega)
          have b : ¬ 2 ≤ gI ss i := fun z => no ⟨i, by omega, z⟩
          rw [gI_at hi] at a b
          omega
        omega
      refine ⟨(List.range m).map fun j => if j = i then (1 : Int) else 0, S.pt.mpr ⟨by simp, fun j hj => ?_⟩, by rw [sum_unit m i hi, l1]⟩
      rw [gI_at (by simp; exact hj), List.getElem_map, List.getElem_range]
      have := one j hj
      split
      · subst_vars; omega
      · omega
  · rw [List.map_map]
    show ((List.filter _ (bxS m ss)).map id).Nodup
    rw [List.map_id]
    exact boxS_nd.filter _
  all_goals
    obtain ⟨q, hq, rfl⟩ := List.mem_map.mp hp
    have hq := (List.mem_filter.mp hq).1
    have := M.sd.in7 hq
    have hs := sM_le M.sd.m4
  · exact this.1
  · intro x hx
    have := this.2 x hx
    omega
  · have := M.wo hq
    try dsimp only
    omega
section
variable {R : DL.N → En → Prop} {Z : Xc → En → Prop} {xs ys : List Int}
theorem m_hill_road {most : Int} {N : Nat} (hN : N + 100 ≤ LIM) (k : ∀ (m : Nat) (h : Hl), MHt m h → HT m h → ∀ N', N' ≤ N + 100 → ∀ ρ, ρ[0]? = some (pT N') → R (.dat (tH h)) ρ) : dsp__law_m_hill [pT N, .v (.dat (.int most))] R Z := by
  unfold dsp__law_m_hill dspOf w__law_m_hill
  refine seq_step fun K hK => ?_
  have J : ∀ (m : Nat) (ss : List Int) (N' : Nat), N' ≤ N + 5 → SD m ss → K [pT N', .v (.dat (.int most)), .v (.dat (.list (ss.map .int))), .e, .e, .e, .e, .e, .e, .e, .e, .e, .e, .e, .e, .e, .e, .e, .e, .e] := fun m ss N1 hN1 hS => by
    have hm := hS.m4
    have sl := hS.ln
    refine hK _ ?_
    clear hK
    refine seq_step fun K hK => ?_
    walk_at "dl"
    rw [sl]
    refine hK _ ?_
    clear hK
    refine seq_step fun K hK => ?_
    walk_at "dl"
    refine ⟨⟨by decide, by decide, by omega, by omega⟩, ?_⟩
    rw [show rgL 0 (m : Int) = (List.range m).map eN by rw [show rgL 0 (m : Int) = rgL ((0 : Nat) : Int) (m : Int) from rfl, rg_nat 0 m, List.range_eq_range', Nat.sub_zero]]
    refine mixed_road (by simp; omega) (by simp; omega) fun od op N2 hN2 ρ h0 => ?_
    rw [h0]
    clear h0
    try dsimp only
    rw [List.length_range] at hN2
    have ol := op.length_eq
    rw [List.length_range] at ol
    refine hK _ ?_
    clear hK
    refine seq_step fun K hK => ?_
    walk_at "dl"
    refine ⟨by omega, ?_⟩
    refine lc_relN (ρ := [pT N2, .v (.dat (.int most)), .v (.dat (.list (ss.map .int))), .v (.dat (.int (m : Int))), .v (.dat (.list (od.map eN))), .e, .e, .e, .e, .e, .e, .e, .e, .e, .e, .e, .e, .e, .e, .e]) (enc := eN) 0 pT 4 eB (fun _ b => BK b) (fun N => by walk_at "dl") (by rw [List.length_range]; omega) (fun i hi N hN k q => ?_) (by simp; omega) fun bs N3 hN3 h1 h2 => ?_
    · walk_at "dl"
      refine bend_road (by decide) hN fun b hb N' hN' ρ h0 => ?_
      rw [h0]
      clear h0
      walk_at "dl"
      exact q b N' hN' hb
    rw [List.length_range] at hN3 h1
    rw [List.nil_append]
    have hB : ∀ b ∈ bs, BK b := fun x hx => by
      obtain ⟨i, hi, rfl⟩ := List.getElem_of_mem hx
      exact h2 ((List.range m)[i]'(by rw [List.length_range]; omega), bs[i]) (by
        have := List.getElem_zip (l := List.range m) (l' := bs) (i := i) (h := by rw [List.length_zip, List.length_range, h1]; omega)
        rw [← this]
        exact List.getElem_mem _)
    clear h2
    walk_at "dl"
    refine hK _ ?_
    clear hK
    refine seq_step fun K hK => ?_
    walk_at "dl"
    refine ⟨by omega, ?_⟩
    rw [upTo_rg]
    have ul := upTo_len 2 (m : Int)
    refine lc_pickN (ρ := [pT N3, .v (.dat (.int most)), .v (.dat (.list (ss.map .int))), .v (.dat (.int (m : Int))), .v (.dat (.list (od.map eN))), .v (.dat (.list (bs.map eB))), .e, .e, .e, .e, .e, .e, .e, .e, .e, .e, .e, .e, .e, .e]) (enc := PyData.int) 0 pT 5 (fun t => eLt (od.take t.1.toNat, t.2)) (fun _ b => BK b) (fun N => by walk_at "dl") (by omega) (fun i hi N hN k kn h1 h2 => ?_) (by simp; omega) fun qs N4 hN4 g1 g2 => ?_
    · obtain ⟨i2, im⟩ := upTo_mem.mp hi
      obtain ⟨s, rfl⟩ := Int.eq_ofNat_of_zero_le (show 0 ≤ i by omega)
      walk_at "dl"
      refine dr_road (by decide) (by decide) (by omega) fun r N5 r1 hN5 ρ h0 => ?_
      rw [h0]
      clear h0
      walk_at "dl"
      split
      · rw [← List.map_take]
        refine bend_road (by decide) (by omega) fun b hb N' hN' ρ h0 => ?_
        rw [h0]
        clear h0
        walk_at "dl"
        exact ⟨by decide, h1 b N' (by omega) hb⟩
      · exact h2 N5 (by omega)
    have ql := g1.length_le
    rw [List.length_map] at ql
    rw [List.nil_append, show qs.map (fun t => eLt (od.take t.1.toNat, t.2)) = (qs.map fun t => (od.take t.1.toNat, t.2)).map eLt by rw [List.map_map]; rfl]
    have lk : ∀ t ∈ qs.map fun t => (od.take t.1.toNat, t.2), (∃ s, 2 ≤ s ∧ s ≤ m ∧ t.1 = od.take s) ∧ BK t.2 := fun t ht => by
      obtain ⟨u, hu, rfl⟩ := List.mem_map.mp ht
      have := upTo_mem.mp (g1.subset (List.mem_map_of_mem hu))
      exact ⟨⟨u.1.toNat, by omega, by omega, rfl⟩, g2 u hu⟩
    have ln : (qs.map fun t => (od.take t.1.toNat, t.2)).length ≤ 8 := by rw [List.length_map]; omega
    generalize (qs.map fun t => (od.take t.1.toNat, t.2)) = ls at lk ln
    clear g1 g2 ql
    walk_at "dl"
    refine hK _ ?_
    clear hK
    refine seq_step fun K hK => ?_
    walk_at "dl"
    refine ⟨by decide, ?_⟩
    refine lc_ints (enc := PyData.int) (fun x => x - 1) (by walk_at "dl") (fun x hx k q => ?_) (by omega) ?_
    · walk_at "dl"
      exact q
    walk_at "dl"
    refine ⟨_, rfl, ?_⟩
    refine hK _ ?_
    clear hK
    have tt : 0 ≤ (one1 ss).sum := by
      have := sum_in (lo := 0) (hi := 8) (l := one1 ss) fun x hx => by
        obtain ⟨y, hy, rfl⟩ := List.mem_map.mp hx
        have := hS.sd y hy
        have := sM_le hm
        omega
      omega
    rw [show (ss.map fun x => x - 1).sum = (one1 ss).sum from rfl]
    generalize hT : (one1 ss).sum = T at tt
    refine seq_step fun K hK => ?_
    have J1 : ∀ (lo : Int) (N' : Nat), N' ≤ N4 + 1 → 0 ≤ lo → lo ≤ 1 → lo ≤ T → K [pT N', .v (.dat (.int most)), .v (.dat (.list (ss.map .int))), .v (.dat (.int (m : Int))), .v (.dat (.list (od.map eN))), .v (.dat (.list (bs.map eB))), .e, .v (.dat (.list (ls.map eLt))), .e, .v (.lst []), .v (.dat (.int T)), .e, .v (.dat (.int lo)), .e, .e, .e, .e, .e, .e, .e] := fun lo N5 hN5 l0 l1 l2 => by
      refine hK _ ?_
      clear hK
      refine seq_step fun K hK => ?_
      have J2 : ∀ (hi : Int) (N' : Nat), N' ≤ N5 + 1 → lo ≤ hi → K [pT N', .v (.dat (.int most)), .v (.dat (.list (ss.map .int))), .v (.dat (.int (m : Int))), .v (.dat (.list (od.map eN))), .v (.dat (.list (bs.map eB))), .e, .v (.dat (.list (ls.map eLt))), .e, .v (.lst []), .v (.dat (.int T)), .e, .v (.dat (.int lo)), .v (.dat (.int hi)), .e, .e, .e, .e, .e, .e] := fun hi N6 hN6 lh => by
        have M : MRt m ss bs od ls lo hi := ⟨hS, h1, hB, op, lk, ln, ⟨l0, l1⟩, by rw [hT]; exact l2, lh⟩
        refine hK _ ?_
        clear hK
        refine seq_step fun K hK => for_step fun K2 hK2 => ?_
        walk_at "dl"
        refine ⟨by decide, ⟨by omega, by omega, by decide⟩, ?_⟩
        refine lc_ints (enc := PyData.int) (fun x => x - 1) (by walk_at "dl") (fun x hx k q => ?_) (by omega) ?_
        · walk_at "dl"
          exact q
        walk_at "dl"
        rw [flat_rep]
        refine box_road hS.len (by rw [List.length_replicate]; omega) hS.zp fun ρ => ?_
        walk_at "dl"
        have bl27 := hS.sm
        refine hK2 _ _ (loop_foldN (enc := tI) (fun n (acc : Hl) ρ => acc.length ≤ n ∧ ∃ o11 o14 o15 o16 o17 o18 o19, okS o11 ∧ okS o14 ∧ okS o15 ∧ okS o16 ∧ okS o17 ∧ okS o18 ∧ okS o19 ∧ ρ = [pT N6, .v (.dat (.int most)), .v (.dat (.list (ss.map .int))), .v (.dat (.int (m : Int))), .v (.dat (.list (od.map eN))), .v (.dat (.list (bs.map eB))), .e, .v (.dat (.list (ls.map eLt))), .e, .v (.lst (acc.map eH)), .v (.dat (.int T)), o11, .v (.dat (.int lo)), .v (.dat (.int hi)), o14, o15, o16, o17, o18, o19]) (fun acc p => acc ++ if decide (lo ≤ p.sum) && decide (p.sum ≤ hi) then [(p, mWt bs ls p)] else []) (bxS m ss).length (bxS m ss) [] 0 (Nat.zero_add _) (fun p hp n hn acc ρ hP K3 hK3 => ?_) (fun ρ hP => ?_) _ ⟨Nat.le_refl _, _, _, _, _, _, _, _, by walk_at "oks", by walk_at "oks", by walk_at "oks", by walk_at "oks", by walk_at "oks", by walk_at "oks", by walk_at "oks", rfl⟩)
        · obtain ⟨ha, o11, o14, o15, o16, o17, o18, o19, ⟨p11, rfl⟩, ⟨p14, rfl⟩, ⟨p15, rfl⟩, ⟨p16, rfl⟩, ⟨p17, rfl⟩, ⟨p18, rfl⟩, ⟨p19, rfl⟩, rfl⟩ := hP
          obtain ⟨p1, p2⟩ := hS.in7 hp
          have hsM := sM_le hm
          refine gN_step (by walk_at "dl") (by simp only [List.set_cons_succ, List.set_cons_zero]; rfl) ?_
          refine if_step fun Ka Kb hKa hKb => ?_
          walk_at "dl"
          refine ⟨p, rfl, ?_⟩
          try dsimp only
          have NB : ¬ (lo ≤ p.sum ∧ p.sum ≤ hi) → Kb [pT N6, .v (.dat (.int most)), .v (.dat (.list (ss.map .int))), .v (.dat (.int (m : Int))), .v (.dat (.list (od.map eN))), .v (.dat (.list (bs.map eB))), .e, .v (.dat (.list (ls.map eLt))), .e, .v (.lst (acc.map eH)), .v (.dat (.int T)), DL.lo p11, .v (.dat (.int lo)), .v (.dat (.int hi)), .v (.dat (tI p)), DL.lo p15, DL.lo p16, DL.lo p17, DL.lo p18, DL.lo p19] := fun hc => by
            refine hKb _ ?_
            clear hKa hKb
            walk_at "dl"
            rw [show (decide (lo ≤ p.sum) && decide (p.sum ≤ hi)) = false by rw [Bool.and_eq_false_iff, decide_eq_false_iff_not, decide_eq_false_iff_not]; omega] at hK3
            refine hK3 _ ⟨by simp; omega, ?_⟩
            rw [if_neg (by decide), List.append_nil]
            exact ⟨_, _, _, _, _, _, _, by walk_at "oks", by walk_at "oks", by walk_at "oks", by walk_at "oks", by walk_at "oks", by walk_at "oks", by walk_at "oks", rfl⟩
          by_cases c1 : lo ≤ p.sum
          · rw [if_pos c1]
            by_cases c2 : p.sum ≤ hi
            · rw [if_pos c2]
              clear NB
              refine hKa _ ?_
              clear hKa hKb
              refine seq_step fun K4 hK4 => ?_
              walk_at "dl"
              rw [show zipD (bs.map eB) (p.map .int) = (List.zip bs p).map fun t => PyData.tuple [eB t.1, .int t.2] by unfold zipD; rw [List.zipWith_map, List.zip_eq_zipWith, List.map_zipWith]]
              refine lc_ints (enc := fun t : Bd × Int => PyData.tuple [eB t.1, .int t.2]) (fun t => bdW t.1 t.2) (by walk_at "dl") (fun t ht k q => ?_) (by rw [List.length_zip]; omega) ?_
              · have hc := hB _ (List.of_mem_zip ht).1
                have hx := p2 _ (List.of_mem_zip ht).2
                walk_at "dl"
                refine bent_road hc (by omega) fun ρ => ?_
                exact q
              walk_at "dl"
              refine ⟨_, rfl, hK4 _ ?_⟩
              clear hK4
              walk_at "dl"
              have lot := M.lot
              refine lc_ints (enc := eLt) (fun t => bdW t.2 (lsum p t.1)) (by walk_at "dl") (fun t ht k' q' => ?_) (by omega) ?_
              · have lc := lot t ht
                have li := lsum_in hS hp lc
                have bk := (lk t ht).2
                walk_at "dl"
                refine lc_ints (enc := eN) (gI p) (by walk_at "dl") (fun i hi k q => ?_) (by have := lc.2; omega) ?_
                · have h1 := lc.1 i hi
                  walk_at "dl"
                  rw [atD_g (by omega)]
                  exact q
                walk_at "dl"
                refine ⟨_, rfl, bent_road bk (by unfold lsum at li; omega) fun ρ => ?_⟩
                exact q'
              walk_at "dl"
              refine ⟨_, rfl, ?_⟩
              try dsimp only
              refine ⟨by decide, by omega, ?_⟩
              rw [show (decide (lo ≤ p.sum) && decide (p.sum ≤ hi)) = true by rw [Bool.and_eq_true, decide_eq_true_eq, decide_eq_true_eq]; exact ⟨c1, c2⟩] at hK3
              refine hK3 _ ⟨by simp; omega, ?_⟩
              rw [if_pos rfl, show acc.map eH ++ [PyData.tuple [tI p, PyData.int ((List.map (fun t : Bd × Int => bdW t.1 t.2) (bs.zip p)).sum + (List.map (fun t : List Nat × Bd => bdW t.2 (lsum p t.1)) ls).sum)]] = (acc ++ [(p, mWt bs ls p)]).map eH by rw [List.map_append]; rfl]
              exact ⟨_, _, _, _, _, _, _, by walk_at "oks", by walk_at "oks", by walk_at "oks", by walk_at "oks", by walk_at "oks", by walk_at "oks", by walk_at "oks", rfl⟩
            · rw [if_neg c2]
              exact NB fun h => c2 h.2
          · rw [if_neg c1]
            exact NB fun h => c1 h.1
        · obtain ⟨ha, hP⟩ := hP
          have e2 : (bxS m ss).foldl (fun (acc : Hl) p => acc ++ if decide (lo ≤ p.sum) && decide (p.sum ≤ hi) then [(p, mWt bs ls p)] else []) [] = mRaw m ss bs ls lo hi := by
            have : ∀ (l : List Pt) (s : Hl), l.foldl (fun (acc : Hl) p => acc ++ if decide (lo ≤ p.sum) && decide (p.sum ≤ hi) then [(p, mWt bs ls p)] else []) s = s ++ (l.filter fun p => decide (lo ≤ p.sum) && decide (p.sum ≤ hi)).map fun p => (p, mWt bs ls p) := fun l => by
              induction l with
              | nil => intro s; exact (List.append_nil s).symm
              | cons a l ih =>
                intro s
                rw [List.foldl_cons, ih, List.filter_cons]
                split <;> simp
            exact this _ _
          rw [e2] at hP
          clear ha e2
          obtain ⟨o11, o14, o15, o16, o17, o18, o19, ⟨p11, rfl⟩, ⟨p14, rfl⟩, ⟨p15, rfl⟩, ⟨p16, rfl⟩, ⟨p17, rfl⟩, ⟨p18, rfl⟩, ⟨p19, rfl⟩, rfl⟩ := hP
          have F := M.facts
          refine hK _ ?_
          clear hK hK2
          refine ret_step ?_
          walk_at "dl"
          refine shift_road hm (by have := F.2.1; omega) F.1 F.2.2.2.1 F.2.2.2.2.1 (by omega) fun st sl sp N9 hN9 ρ h0 => ?_
          rw [h0]
          clear h0
          try dsimp only
          exact k m _ ⟨ss, bs, od, ls, lo, hi, st, M, sl, rfl⟩ (shf_HT hm F.1 F.2.1 F.2.2.1 sl F.2.2.2.1 sp F.2.2.2.2.2) N9 (by omega) _ rfl
      refine set_st fun Q1 h1 => call_st fun Q2 h2 => aC_st fun Q3 h3 => ?_
      walk_at "dl"
      refine h3 _ _ ?_
      clear h3
      refine aC_st fun Q4 h4 => xD_st fun Q5 h5 => lst_st fun Q6 h6 => aC_st fun Q7 h7 => ?_
      walk_at "dl"
      refine h7 _ _ (aC_st fun Q8 h8 => ?_)
      clear h7
      walk_at "dl"
      refine h8 _ _ (aC_st fun Q9 h9 => ?_)
      clear h8
      walk_at "dl"
      refine h9 _ _ (aC_st fun Qa ha => ?_)
      clear h9
      walk_at "dl"
      refine ha _ _ (h6 _ _ ⟨by simp, h5 _ _ (h4 _ _ (h2 _ _ ⟨rfl, by simp [lentI], ?_⟩))⟩)
      clear ha h6 h5 h4 h2
      show dsp__law_pick [pT N5, .v (.dat (.list [.int T, .int T, .int (if T - 1 > lo then T - 1 else lo), .int (if 1 > lo then 1 else lo)]))] _ _
      refine pick_road (by simp) (by simp) (by omega) fun y y1 N6 hN6 ρ h0 => h1 _ _ ?_
      obtain ⟨hi, rfl, hlh⟩ : ∃ hi : Int, y = .int hi ∧ lo ≤ hi := by
        simp only [List.mem_cons, List.not_mem_nil, or_false] at y1
        rcases y1 with rfl | rfl | rfl | rfl
        · exact ⟨_, rfl, by omega⟩
        · exact ⟨_, rfl, by omega⟩
        · exact ⟨_, rfl, by split <;> omega⟩
        · exact ⟨_, rfl, by split <;> omega⟩
      have e : backE ρ 0 [Ar.o 0, .d (.list [.int T, .int T, .int (if T - 1 > lo then T - 1 else lo), .int (if 1 > lo then 1 else lo)])] [pT N5, .v (.dat (.int most)), .v (.dat (.list (ss.map .int))), .v (.dat (.int (m : Int))), .v (.dat (.list (od.map eN))), .v (.dat (.list (bs.map eB))), .e, .v (.dat (.list (ls.map eLt))), .e, .v (.lst []), .v (.dat (.int T)), .e, .v (.dat (.int lo)), .e, .e, .e, .e, .e, .e, .e] = [pT N6, .v (.dat (.int most)), .v (.dat (.list (ss.map .int))), .v (.dat (.int (m : Int))), .v (.dat (.list (od.map eN))), .v (.dat (.list (bs.map eB))), .e, .v (.dat (.list (ls.map eLt))), .e, .v (.lst []), .v (.dat (.int T)), .e, .v (.dat (.int lo)), .e, .e, .e, .e, .e, .e, .e] := by
        unfold backE backE backE mrg
        rw [h0]
        rfl
      rw [e]
      exact ⟨by walk_at "dl", J2 hi N6 hN6 hlh⟩
    walk_at "dl"
    split
    · refine ⟨by decide, pick_road (by decide) (by decide) (by omega) fun y y1 N5 hN5 ρ h0 => ?_⟩
      rw [h0]
      clear h0
      simp only [List.mem_cons, List.not_mem_nil, or_false] at y1
      rcases y1 with rfl | rfl | rfl
      · exact J1 0 N5 hN5 (by decide) (by decide) (by omega)
      · exact J1 0 N5 hN5 (by decide) (by decide) (by omega)
      · exact J1 1 N5 hN5 (by decide) (by decide) (by omega)
    · refine ⟨by decide, pick_road (by decide) (by decide) (by omega) fun y y1 N5 hN5 ρ h0 => ?_⟩
      rw [h0]
      clear h0
      simp only [List.mem_cons, List.not_mem_nil, or_false] at y1
      rcases y1 with rfl | rfl | rfl
      · exact J1 0 N5 hN5 (by decide) (by decide) (by omega)
      · exact J1 0 N5 hN5 (by decide) (by decide) (by omega)
      · exact J1 0 N5 hN5 (by decide) (by decide) (by omega)
  walk_at "dl"
  refine sides_road (by omega) fun m ss N1 hN1 hS s ρ h0 hs => ?_
  rw [h0]
  clear h0
  rcases hs with rfl | rfl
  · exact J m ss N1 hN1 hS
  · exact J m ss N1 hN1 hS
end

/-! any hills -/
section
variable {R : DL.N → En → Prop} {Z : Xc → En → Prop} {xs ys : List Int}
theorem any_hill_road {most : Int} {N : Nat} (hN : N + 100 ≤ LIM) (k : ∀ (m : Nat) (h : Hl), HT m h → ∀ N', N' ≤ N + 100 → ∀ ρ, ρ[0]? = some (pT N') → R (.dat (tH h)) ρ) : dsp__law_any_hill [pT N, .v (.dat (.int most))] R Z := by
  unfold dsp__law_any_hill dspOf w__law_any_hill
  refine seq_step fun K hK => ?_
  have J : ∀ (m : Nat) (ss : List Int) (N' : Nat), N' ≤ N + 5 → SD m ss → K [pT N', .v (.dat (.int most)), .v (.dat (.list (ss.map .int))), .e, .e, .e, .e] := fun m ss N1 hN1 hS => by
    have hm := hS.m4
    have sl := hS.ln
    refine hK _ ?_
    clear hK
    refine seq_step fun K hK => ?_
    walk_at "dl"
    rw [sl]
    refine ⟨by decide, ⟨by omega, by omega, by decide⟩, ?_⟩
    refine lc_ints (enc := PyData.int) (fun x => x - 1) (by walk_at "dl") (fun x hx k q => ?_) (by omega) ?_
    · walk_at "dl"
      exact q
    walk_at "dl"
    rw [flat_rep]
    refine box_road hS.len (by rw [List.length_replicate]; omega) hS.zp fun ρ => ?_
    walk_at "dl"
    rw [show boxL (List.replicate m 0) (List.map (fun x => x - 1) ss) = bxS m ss from rfl]
    have bl27 := hS.sm
    refine lc_pickN (ρ := [pT N1, .v (.dat (.int most)), .v (.dat (.list (ss.map .int))), .e, .e, .e, .e]) (enc := tI) (β := Unit) 0 pT 1 (fun t => tI t.1) (fun _ _ => True) (fun N => by walk_at "dl") (by omega) (fun i hi N hN k kn h1 h2 => ?_) (by simp; omega) fun qs N4 hN4 g1 g2 => ?_
    · walk_at "dl"
      refine dr_road (by decide) (by decide) (by omega) fun r N5 r1 hN5 ρ h0 => ?_
      rw [h0]
      clear h0
      walk_at "dl"
      split
      · exact h1 () N5 (by omega) trivial
      · exact h2 N5 (by omega)
    rw [List.nil_append, show qs.map (fun t => tI t.1) = (qs.map (·.1)).map tI by rw [List.map_map]; rfl]
    have ql := g1.length_le
    clear g2
    generalize qs.map (·.1) = ps at g1 ql
    have pin : ∀ p ∈ ps, p ∈ bxS m ss := fun p hp => g1.subset hp
    have pnd : ps.Nodup := g1.nodup boxS_nd
    clear g1
    walk_at "dl"
    refine hK _ ?_
    clear hK
    refine seq_step fun K hK => ?_
    have J2 : ∀ ps : List Pt, ps ≠ [] → ps.length ≤ 27 → (∀ p ∈ ps, p ∈ bxS m ss) → ps.Nodup → K [pT N4, .v (.dat (.int most)), .v (.dat (.list (ss.map .int))), .v (.dat (.list (ps.map tI))), .e, .e, .e] := fun ps ne pl pin pnd => by
      refine hK _ ?_
      clear hK
      refine seq_step fun K hK => ?_
      walk_at "dl"
      refine ⟨by decide, pick_road (by decide) (by decide) (by omega) fun y y1 N5 hN5 ρ h0 => ?_⟩
      rw [h0]
      clear h0
      obtain ⟨f, rfl, hf⟩ : ∃ f : Int, y = .int f ∧ 3 ≤ f ∧ f ≤ 900 := by
        simp only [List.mem_cons, List.not_mem_nil, or_false] at y1
        rcases y1 with rfl | rfl | rfl <;> exact ⟨_, rfl, by decide, by decide⟩
      refine hK _ ?_
      clear hK
      refine ret_step ?_
      walk_at "dl"
      refine lc_relN (ρ := [pT N5, .v (.dat (.int most)), .v (.dat (.list (ss.map .int))), .v (.dat (.list (ps.map tI))), .e, .e, .v (.dat (.int f))]) (enc := tI) 0 pT 1 eH (fun p t => t.1 = p ∧ -300 ≤ t.2 ∧ t.2 ≤ 900) (fun N => by walk_at "dl") (by omega) (fun p hp N hN k q => ?_) (by simp; omega) fun h N6 hN6 h1 h2 => ?_
      · walk_at "dl"
        refine dr_road (by omega) (by omega) hN fun r N' r1 hN' ρ h0 => ?_
        rw [h0]
        clear h0
        walk_at "dl"
        refine ⟨by unfold CDiv; omega, by decide, ?_⟩
        exact q (p, (r : Int) - f / 3) N' hN' ⟨rfl, by show -300 ≤ (r : Int) - f / 3; omega, by show (r : Int) - f / 3 ≤ 900; omega⟩
      rw [List.nil_append]
      have e : h.map (·.1) = ps := by
        refine List.ext_getElem (by rw [List.length_map, h1]) fun i i1 i2 => ?_
        rw [List.length_map] at i1
        rw [List.getElem_map]
        have := h2 (ps[i], h[i]) (by
          have := List.getElem_zip (l := ps) (l' := h) (i := i) (h := by rw [List.length_zip, h1]; omega)
          rw [← this]
          exact List.getElem_mem _)
        exact this.1
      have wo : ∀ p ∈ h, -6000 ≤ p.2 ∧ p.2 ≤ 6000 := fun p hp => by
        obtain ⟨i, hi, rfl⟩ := List.getElem_of_mem hp
        have := h2 (ps[i]'(by omega), h[i]) (by
          have := List.getElem_zip (l := ps) (l' := h) (i := i) (h := by rw [List.length_zip, h1]; omega)
          rw [← this]
          exact List.getElem_mem _)
        dsimp only at this
        omega
      have hin : ∀ p ∈ h, p.1 ∈ bxS m ss := fun p hp => pin _ (e ▸ List.mem_map_of_mem hp)
      have hne : h ≠ [] := fun z => ne (by rw [← e, z]; rfl)
      have hpl : ∀ p ∈ h, p.1.length = m := fun p hp => (hS.in7 (hin p hp)).1
      have sM8 := sM_le hm
      walk_at "dl"
      refine shift_road hm (by omega) hne hpl (fun p hp x hx => by have := (hS.in7 (hin p hp)).2 x hx; omega) (by omega) fun st sl sp N9 hN9 ρ h0 => ?_
      rw [h0]
      clear h0
      try dsimp only
      exact k m _ (shf_HT hm hne (by omega) (by rw [e]; exact pnd) sl hpl sp wo) N9 (by omega) _ rfl
    walk_at "dl"
    have psm : ∀ p ∈ ps, smI p ∧ p.length ≤ 10 := fun p hp => by
      have := hS.in7 (pin p hp)
      have h8 := sM_le hm
      exact ⟨fun x hx => by have := this.2 x hx; omega, by omega⟩
    refine ⟨by decide, ⟨(okB.lst (D := 1) (n := 10) fun x hx => by
      obtain ⟨p, hp, rfl⟩ := List.mem_map.mp hx
      exact (okB.tI (psm p hp).1).le (Nat.le_refl _) (psm p hp).2).shaped (by decide), rfl⟩, ?_⟩
    cases ps with
    | nil =>
      rw [if_neg (by rw [show (PyData.list (List.map tI [])).eqv (PyData.list []) = true from rfl]; decide)]
      refine ⟨by decide, ⟨by omega, by omega, by decide, by decide⟩, by decide, ?_⟩
      rw [sl, flat_rep]
      refine J2 [zer m] (List.cons_ne_nil _ _) (by simp) (fun p hp => ?_) (by simp)
      rw [List.mem_singleton] at hp
      subst hp
      refine hS.pt.mpr ⟨List.length_replicate .., fun i hi => ?_⟩
      rw [gI_rep hi]
      have := hS.sd (gI ss i) (gI_mem (by omega))
      omega
    | cons p ps =>
      rw [if_pos (by rfl)]
      exact J2 (p :: ps) (List.cons_ne_nil _ _) (by omega) pin pnd
  walk_at "dl"
  refine sides_road (by omega) fun m ss N1 hN1 hS s ρ h0 hs => ?_
  rw [h0]
  clear h0
  rcases hs with rfl | rfl
  · exact J m ss N1 hN1 hS
  · exact J m ss N1 hN1 hS
theorem hill_road {most : Int} {N : Nat} (hN : N + 101 ≤ LIM) (k : ∀ (m : Nat) (h : Hl), HT m h → ∀ N', N' ≤ N + 101 → ∀ ρ, ρ[0]? = some (pT N') → R (.dat (tH h)) ρ) : dsp__law_hill [pT N, .v (.dat (.int most))] R Z := by
  unfold dsp__law_hill dspOf w__law_hill
  refine seq_step fun K hK => ?_
  walk_at "dl"
  refine dr_road (by decide) (by decide) (by omega) fun r N1 r1 hN1 ρ h0 => ?_
  rw [h0]
  clear h0
  refine hK _ ?_
  clear hK
  refine seq_step fun K hK => ?_
  refine if_step fun Ka Kb hKa hKb => ?_
  walk_at "dl"
  split
  · refine hKa _ ?_
    clear hKa hKb
    refine ret_step ?_
    walk_at "dl"
    refine m_hill_road (by omega) fun m h _ hT N2 hN2 ρ h0 => ?_
    rw [h0]
    clear h0
    try dsimp only
    exact k m h hT N2 (by omega) _ rfl
  · refine hKb _ ?_
    clear hKa hKb
    walk_at "dl"
    refine hK _ ?_
    clear hK
    refine ret_step ?_
    walk_at "dl"
    split
    · refine l_hill_road (by omega) fun m h _ hT N2 hN2 ρ h0 => ?_
      rw [h0]
      clear h0
      try dsimp only
      exact k m h hT N2 (by omega) _ rfl
    · refine any_hill_road (by omega) fun m h hT N2 hN2 ρ h0 => ?_
      rw [h0]
      clear h0
      try dsimp only
      exact k m h hT N2 (by omega) _ rfl
end

def Fr8 (f : Sl → Sl → Sl → Sl → Sl → Sl → Sl → Sl → En) (ρ : En) : Prop := ∃ a1 a2 a3 a4 a5 a6 a7 a8, okS a1 ∧ okS a2 ∧ okS a3 ∧ okS a4 ∧ okS a5 ∧ okS a6 ∧ okS a7 ∧ okS a8 ∧ ρ = f a1 a2 a3 a4 a5 a6 a7 a8
def Fr9 (f : Sl → Sl → Sl → Sl → Sl → Sl → Sl → Sl → Sl → En) (ρ : En) : Prop := ∃ a1 a2 a3 a4 a5 a6 a7 a8 a9, okS a1 ∧ okS a2 ∧ okS a3 ∧ okS a4 ∧ okS a5 ∧ okS a6 ∧ okS a7 ∧ okS a8 ∧ okS a9 ∧ ρ = f a1 a2 a3 a4 a5 a6 a7 a8 a9
def Fr10 (f : Sl → Sl → Sl → Sl → Sl → Sl → Sl → Sl → Sl → Sl → En) (ρ : En) : Prop := ∃ a1 a2 a3 a4 a5 a6 a7 a8 a9 a10, okS a1 ∧ okS a2 ∧ okS a3 ∧ okS a4 ∧ okS a5 ∧ okS a6 ∧ okS a7 ∧ okS a8 ∧ okS a9 ∧ okS a10 ∧ ρ = f a1 a2 a3 a4 a5 a6 a7 a8 a9 a10
def Fr11 (f : Sl → Sl → Sl → Sl → Sl → Sl → Sl → Sl → Sl → Sl → Sl → En) (ρ : En) : Prop := ∃ a1 a2 a3 a4 a5 a6 a7 a8 a9 a10 a11, okS a1 ∧ okS a2 ∧ okS a3 ∧ okS a4 ∧ okS a5 ∧ okS a6 ∧ okS a7 ∧ okS a8 ∧ okS a9 ∧ okS a10 ∧ okS a11 ∧ ρ = f a1 a2 a3 a4 a5 a6 a7 a8 a9 a10 a11
def Fr12 (f : Sl → Sl → Sl → Sl → Sl → Sl → Sl → Sl → Sl → Sl → Sl → Sl → En) (ρ : En) : Prop := ∃ a1 a2 a3 a4 a5 a6 a7 a8 a9 a10 a11 a12, okS a1 ∧ okS a2 ∧ okS a3 ∧ okS a4 ∧ okS a5 ∧ okS a6 ∧ okS a7 ∧ okS a8 ∧ okS a9 ∧ okS a10 ∧ okS a11 ∧ okS a12 ∧ ρ = f a1 a2 a3 a4 a5 a6 a7 a8 a9 a10 a11 a12
def Fr13 (f : Sl → Sl → Sl → Sl → Sl → Sl → Sl → Sl → Sl → Sl → Sl → Sl → Sl → En) (ρ : En) : Prop := ∃ a1 a2 a3 a4 a5 a6 a7 a8 a9 a10 a11 a12 a13, okS a1 ∧ okS a2 ∧ okS a3 ∧ okS a4 ∧ okS a5 ∧ okS a6 ∧ okS a7 ∧ okS a8 ∧ okS a9 ∧ okS a10 ∧ okS a11 ∧ okS a12 ∧ okS a13 ∧ ρ = f a1 a2 a3 a4 a5 a6 a7 a8 a9 a10 a11 a12 a13
def Fr14 (f : Sl → Sl → Sl → Sl → Sl → Sl → Sl → Sl → Sl → Sl → Sl → Sl → Sl → Sl → En) (ρ : En) : Prop := ∃ a1 a2 a3 a4 a5 a6 a7 a8 a9 a10 a11 a12 a13 a14, okS a1 ∧ okS a2 ∧ okS a3 ∧ okS a4 ∧ okS a5 ∧ okS a6 ∧ okS a7 ∧ okS a8 ∧ okS a9 ∧ okS a10 ∧ okS a11 ∧ okS a12 ∧ okS a13 ∧ okS a14 ∧ ρ = f a1 a2 a3 a4 a5 a6 a7 a8 a9 a10 a11 a12 a13 a14
def Fr15 (f : Sl → Sl → Sl → Sl → Sl → Sl → Sl → Sl → Sl → Sl → Sl → Sl → Sl → Sl → Sl → En) (ρ : En) : Prop := ∃ a1 a2 a3 a4 a5 a6 a7 a8 a9 a10 a11 a12 a13 a14 a15, okS a1 ∧ okS a2 ∧ okS a3 ∧ okS a4 ∧ okS a5 ∧ okS a6 ∧ okS a7 ∧ okS a8 ∧ okS a9 ∧ okS a10 ∧ okS a11 ∧ okS a12 ∧ okS a13 ∧ okS a14 ∧ okS a15 ∧ ρ = f a1 a2 a3 a4 a5 a6 a7 a8 a9 a10 a11 a12 a13 a14 a15
def Fr16 (f : Sl → Sl → Sl → Sl → Sl → Sl → Sl → Sl → Sl → Sl → Sl → Sl → Sl → Sl → Sl → Sl → En) (ρ : En) : Prop := ∃ a1 a2 a3 a4 a5 a6 a7 a8 a9 a10 a11 a12 a13 a14 a15 a16, okS a1 ∧ okS a2 ∧ okS a3 ∧ okS a4 ∧ okS a5 ∧ okS a6 ∧ okS a7 ∧ okS a8 ∧ okS a9 ∧ okS a10 ∧ okS a11 ∧ okS a12 ∧ okS a13 ∧ okS a14 ∧ okS a15 ∧ okS a16 ∧ ρ = f a1 a2 a3 a4 a5 a6 a7 a8 a9 a10 a11 a12 a13 a14 a15 a16

section
theorem loop_split {α : Type} {Z : KX} {D : DE} {g : WG} {b : WS} {enc : α → PyData} (P : List α → En → Prop) (l0 : List α) : ∀ (l s : List α), s ++ l = l0 →
    (∀ s a r, s ++ a :: r = l0 → ∀ ρ, P s ρ → ∀ K, (∀ ρ', P (s ++ [a]) ρ' → K ρ') → g (enc a) ρ fun ρ1 => b Z { D with nx := K, ct := K, bk := D.nx } ρ1) →
    (∀ ρ, P l0 ρ → D.nx ρ) → ∀ ρ, P s ρ → wLoop Z D g b (l.map enc) ρ
  | [], s, e, _, fin, ρ, h => fin ρ (by rw [← e, List.append_nil]; exact h)
  | a :: l, s, e, step, fin, ρ, h => step s a l e ρ h (wLoop Z D g b (l.map enc)) fun ρ' h' => loop_split P l0 l (s ++ [a]) (by rw [← e, List.append_assoc]; rfl) step fin ρ' h'
end

/-! boxes of prices -/
def szN : List (Int × Int) → Nat
  | [] => 1
  | p :: l => (p.2 + 1 - p.1).toNat * szN l
theorem szN_app (s r : List (Int × Int)) : szN (s ++ r) = szN s * szN r := by
  induction s with
  | nil => show _ = 1 * _; rw [Nat.one_mul]; rfl
  | cons p s ih => show _ * szN (s ++ r) = _ * szN s * szN r; rw [ih, Nat.mul_assoc]
theorem szN_pos {s : List (Int × Int)} (h : ∀ p ∈ s, p.1 ≤ p.2) : 1 ≤ szN s := by
  induction s with
  | nil => exact Nat.le_refl _
  | cons p s ih =>
    have h1 := h p List.mem_cons_self
    have h2 := ih fun q hq => h q (List.mem_cons_of_mem _ hq)
    have : 1 ≤ (p.2 + 1 - p.1).toNat := by omega
    exact Nat.mul_le_mul this h2
theorem step_len (p : Int × Int) (f : List Pt) : (boxStep f p).length = f.length * (p.2 + 1 - p.1).toNat := by
  unfold boxStep
  rw [List.length_flatMap]
  simp only [List.length_map]
  rw [List.map_const', List.sum_replicate_nat, upTo_len]
theorem fold_len : ∀ (s : List (Int × Int)) (f : List Pt), (s.foldl boxStep f).length = f.length * szN s
  | [], f => by show _ = f.length * 1; rw [Nat.mul_one]; rfl
  | p :: s, f => by
    rw [List.foldl_cons, fold_len s, step_len]
    show _ = f.length * ((p.2 + 1 - p.1).toNat * szN s)
    rw [Nat.mul_assoc]
def szI (s : List (Int × Int)) : Int := s.foldl (fun a p => a * (p.2 - p.1 + 1)) 1
theorem szI_eq {s : List (Int × Int)} (h : ∀ p ∈ s, p.1 ≤ p.2) : szI s = (szN s : Int) := by
  have aux : ∀ (s : List (Int × Int)) (a : Int), (∀ p ∈ s, p.1 ≤ p.2) → s.foldl (fun a p => a * (p.2 - p.1 + 1)) a = a * (szN s : Int) := fun s => by
    induction s with
    | nil => intro a _; show a = a * 1; rw [Int.mul_one]
    | cons p s ih =>
      intro a h
      have h1 := h p List.mem_cons_self
      rw [List.foldl_cons, ih _ fun q hq => h q (List.mem_cons_of_mem _ hq)]
      show _ = a * (((p.2 + 1 - p.1).toNat * szN s : Nat) : Int)
      rw [Int.natCast_mul, show ((p.2 + 1 - p.1).toNat : Int) = p.2 - p.1 + 1 by omega, Int.mul_assoc]
  unfold szI
  rw [aux s 1 h, Int.one_mul]
theorem szN_part {s r l : List (Int × Int)} {B : Nat} (e : s ++ r = l) (h : ∀ p ∈ l, p.1 ≤ p.2) (b : szN l ≤ B) : szN s ≤ B := by
  subst e
  rw [szN_app] at b
  have := szN_pos fun p hp => h p (List.mem_append_right s hp)
  exact Nat.le_trans (Nat.le_mul_of_pos_right _ this) b
theorem fold_pl : ∀ (s : List (Int × Int)) (f : List Pt) (n : Nat), (∀ q ∈ f, q.length = n) → ∀ q ∈ s.foldl boxStep f, q.length = n + s.length
  | [], f, n, h => by simpa using h
  | p :: s, f, n, h => by
    intro q hq
    rw [List.foldl_cons] at hq
    have := fold_pl s (boxStep f p) (n + 1) (fun q hq => by
      unfold boxStep at hq
      obtain ⟨r, hr, hq⟩ := List.mem_flatMap.mp hq
      obtain ⟨x, _, rfl⟩ := List.mem_map.mp hq
      simp [h r hr]) q hq
    rw [List.length_cons]
    omega
section
variable {R : DL.N → En → Prop} {Z : Xc → En → Prop} {xs ys : List Int}
theorem tbox_road {low high : List Int} (hl : low.length = high.length) (h4 : low.length ≤ 10) (hw : ∀ p ∈ List.zip low high, p.1 ≤ p.2 ∧ -1000 ≤ p.1 ∧ p.1 ≤ 1000 ∧ -1000 ≤ p.2 ∧ p.2 ≤ 1000) (hB : szN (List.zip low high) ≤ 400) (k : ∀ ρ, R (.dat (.list ((boxL low high).map tI))) ρ) : dsp__law_box [.v (.dat (tI low)), .v (.dat (tI high))] R Z := by
  unfold dsp__law_box dspOf w__law_box
  have wl : ∀ p ∈ List.zip low high, p.1 ≤ p.2 := fun p hp => (hw p hp).1
  walk_at "vc"
  rw [zip_i]
  refine hKl _ _ (loop_split (enc := fun p : Int × Int => PyData.tuple [.int p.1, .int p.2]) (fun s ρ => Fr5 (fun s3 s4 s5 s6 s7 => [.v (.dat (tI low)), .v (.dat (tI high)), .v (.dat (.list ((s.foldl boxStep [[]]).map tI))), s3, s4, s5, s6, s7]) ρ) (List.zip low high) (List.zip low high) [] rfl (fun s p r hr ρ hP K hK => ?_) (fun ρ hP => ?_) _ (by walk_at "frm"))
  · walk_at "opn"
    have hp : p ∈ List.zip low high := by rw [← hr]; exact List.mem_append_right _ List.mem_cons_self
    obtain ⟨w1, w2, w3, w4, w5⟩ := hw p hp
    have fl := fold_len s [[]]
    have pl1 := fold_pl s [[]] 0 (by simp)
    have sl : s.length ≤ 10 := by
      have := congrArg List.length hr
      rw [List.length_append, List.length_zip] at this
      omega
    have b1 : (s.foldl boxStep [[]]).length * (p.2 + 1 - p.1).toNat ≤ 400 := by
      have := szN_part (s := s ++ [p]) (r := r) (by rw [← hr, List.append_assoc]; rfl) wl hB
      rw [szN_app] at this
      rw [fl]
      simpa [szN] using this
    have b2 : (s.foldl boxStep [[]]).length ≤ 400 := by
      have := szN_part hr wl hB
      rw [fl]
      simpa using this
    have b3 : 1 ≤ (p.2 + 1 - p.1).toNat := by omega
    rw [List.foldl_append] at hK
    generalize s.foldl boxStep [[]] = found at b1 b2 hK pl1
    clear fl
    have hu := upTo_len p.1 p.2
    have hu4 : (p.2 + 1 - p.1).toNat ≤ 2001 := by omega
    walk_at "vc"
    refine hKl _ _ (loop_split (enc := tI) (fun s2 ρ => Fr2 (fun s6 s7 => [.v (.dat (tI low)), .v (.dat (tI high)), .v (.dat (.list (found.map tI))), .v (.dat (.int p.1)), .v (.dat (.int p.2)), .v (.lst ((boxStep s2 p).map tI)), s6, s7]) ρ) found found [] rfl (fun s2 q r2 hr2 ρ hP K3 hK3 => ?_) (fun ρ hP => ?_) _ (by walk_at "frm"))
    · walk_at "opn"
      have hql := pl1 q (by rw [← hr2]; exact List.mem_append_right _ List.mem_cons_self)
      walk_at "vc"
      rw [upTo_rg]
      refine lc_map (enc := PyData.int) (fun x : Int => tI (q ++ [x])) (by walk_at "vc") (fun x hx k' q' => ?_) (by omega) ?_
      · walk_at "vc"
        rw [show q.map PyData.int ++ [PyData.int x] = (q ++ [x]).map .int by rw [List.map_append]; rfl]
        exact q'
      · walk_at "vc"
        have sl2 : s2.length ≤ found.length := by rw [← hr2, List.length_append]; omega
        have := Nat.mul_le_mul_right (p.2 + 1 - p.1).toNat sl2
        refine ⟨by rw [step_len, hu]; omega, hK3 _ ?_⟩
        rw [show (boxStep s2 p).map tI ++ (upTo p.1 p.2).map (fun x : Int => tI (q ++ [x])) = (boxStep (s2 ++ [q]) p).map tI by unfold boxStep; rw [List.flatMap_append, List.map_append]; simp]
        exact by walk_at "frm"
    · walk_at "opn"
      walk_at "vc"
      exact by walk_at "frm"
  · walk_at "opn"
    walk_at "vc"
    rw [box_all hl]
    exact k _
theorem tables_road {low high : List Int} {most : Int} (hl : low.length = high.length) (h4 : low.length ≤ 4) (hw : ∀ p ∈ List.zip low high, p.1 ≤ p.2 ∧ -1000 ≤ p.1 ∧ p.1 ≤ 1000 ∧ -1000 ≤ p.2 ∧ p.2 ≤ 1000) (hm : 1 ≤ most ∧ most ≤ 400) (k : szI (List.zip low high) ≤ most → ∀ ρ, R (.dat (.list ((boxL low high).map tI))) ρ) (k1 : szI (List.zip low high) > most → ∀ ρ, Z ⟨"TooMany", [("limit", .int most)]⟩ ρ) : dsp_tables_between [.v (.dat (tI low)), .v (.dat (tI high)), .v (.dat (.int most))] R Z := by
  unfold dsp_tables_between dspOf w_tables_between
  have wl : ∀ p ∈ List.zip low high, p.1 ≤ p.2 := fun p hp => (hw p hp).1
  refine seq_step fun K hK => ?_
  walk_at "dl"
  refine hK _ ?_
  clear hK
  refine seq_step fun K hK => for_step fun K2 hK2 => ?_
  walk_at "dl"
  rw [zip_i]
  refine hK2 _ _ (loop_split (enc := fun p : Int × Int => PyData.tuple [.int p.1, .int p.2]) (fun s ρ => Fr2 (fun s4 s5 => [.v (.dat (tI low)), .v (.dat (tI high)), .v (.dat (.int most)), .v (.dat (.int (szI s))), s4, s5, .e, .e, .e, .e]) ρ) (List.zip low high) (List.zip low high) [] rfl (fun s p r hr ρ hP K3 hK3 => ?_) (fun ρ hP => ?_) _ (by walk_at "frm"))
  · walk_at "opn"
    have hp : p ∈ List.zip low high := by rw [← hr]; exact List.mem_append_right _ List.mem_cons_self
    obtain ⟨w1, w2, w3, w4, w5⟩ := hw p hp
    walk_at "dl"
    refine ⟨by unfold CMul; omega, hK3 _ ?_⟩
    rw [show szI s * (p.2 - p.1 + 1) = szI (s ++ [p]) by unfold szI; rw [List.foldl_append]; rfl]
    walk_at "frm"
  · walk_at "opn"
    refine hK _ ?_
    clear hK hK2
    refine seq_step fun K hK => if_step fun Ka Kb hKa hKb => ?_
    walk_at "dl"
    by_cases c : most < szI (List.zip low high)
    · rw [if_pos c]
      refine hKa _ ?_
      clear hKa hKb
      walk_at "dl"
      exact k1 c _
    · rw [if_neg c]
      refine hKb _ ?_
      clear hKa hKb
      walk_at "dl"
      refine hK _ ?_
      clear hK
      have hB : szN (List.zip low high) ≤ 400 := by
        have := szI_eq wl
        omega
      have hk := k (by omega)
      generalize szI (List.zip low high) = many at c hk
      clear k k1 c
      refine seq_step fun K hK => ?_
      walk_at "dl"
      refine ⟨by decide, by decide, hK _ ?_⟩
      clear hK
      refine seq_step fun K hK => for_step fun K2 hK2 => ?_
      generalize o1 = x4
      generalize o2 = x5
      walk_at "dl"
      rw [zip_i]
      refine hK2 _ _ (loop_split (enc := fun p : Int × Int => PyData.tuple [.int p.1, .int p.2]) (fun s ρ => Fr5 (fun s4 s5 s7 s8 s9 => [.v (.dat (tI low)), .v (.dat (tI high)), .v (.dat (.int most)), .v (.dat (.int many)), s4, s5, .v (.dat (.list ((s.foldl boxStep [[]]).map tI))), s7, s8, s9]) ρ) (List.zip low high) (List.zip low high) [] rfl (fun s p r hr ρ hP K hK => ?_) (fun ρ hP => ?_) _ (by walk_at "frm"))
      · walk_at "opn"
        have hp : p ∈ List.zip low high := by rw [← hr]; exact List.mem_append_right _ List.mem_cons_self
        obtain ⟨w1, w2, w3, w4, w5⟩ := hw p hp
        have fl := fold_len s [[]]
        have pl1 := fold_pl s [[]] 0 (by simp)
        have sl : s.length ≤ 10 := by
          have := congrArg List.length hr
          rw [List.length_append, List.length_zip] at this
          omega
        have b1 : (s.foldl boxStep [[]]).length * (p.2 + 1 - p.1).toNat ≤ 400 := by
          have := szN_part (s := s ++ [p]) (r := r) (by rw [← hr, List.append_assoc]; rfl) wl hB
          rw [szN_app] at this
          rw [fl]
          simpa [szN] using this
        have b2 : (s.foldl boxStep [[]]).length ≤ 400 := by
          have := szN_part hr wl hB
          rw [fl]
          simpa using this
        have b3 : 1 ≤ (p.2 + 1 - p.1).toNat := by omega
        rw [List.foldl_append] at hK
        generalize s.foldl boxStep [[]] = found at b1 b2 hK pl1
        clear fl
        have hu := upTo_len p.1 p.2
        have hu4 : (p.2 + 1 - p.1).toNat ≤ 2001 := by omega
        walk_at "vc"
        refine hKl _ _ (loop_split (enc := tI) (fun s2 ρ => Fr2 (fun s8 s9 => [.v (.dat (tI low)), .v (.dat (tI high)), .v (.dat (.int most)), .v (.dat (.int many)), .v (.dat (.int p.1)), .v (.dat (.int p.2)), .v (.dat (.list (found.map tI))), .v (.lst ((boxStep s2 p).map tI)), s8, s9]) ρ) found found [] rfl (fun s2 q r2 hr2 ρ hP K3 hK3 => ?_) (fun ρ hP => ?_) _ (by walk_at "frm"))
        · walk_at "opn"
          have hql := pl1 q (by rw [← hr2]; exact List.mem_append_right _ List.mem_cons_self)
          walk_at "vc"
          rw [upTo_rg]
          refine lc_map (enc := PyData.int) (fun x : Int => tI (q ++ [x])) (by walk_at "vc") (fun x hx k' q' => ?_) (by omega) ?_
          · walk_at "vc"
            rw [show q.map PyData.int ++ [PyData.int x] = (q ++ [x]).map .int by rw [List.map_append]; rfl]
            exact q'
          · walk_at "vc"
            have sl2 : s2.length ≤ found.length := by rw [← hr2, List.length_append]; omega
            have := Nat.mul_le_mul_right (p.2 + 1 - p.1).toNat sl2
            refine ⟨by rw [step_len, hu]; omega, hK3 _ ?_⟩
            rw [show (boxStep s2 p).map tI ++ (upTo p.1 p.2).map (fun x : Int => tI (q ++ [x])) = (boxStep (s2 ++ [q]) p).map tI by unfold boxStep; rw [List.flatMap_append, List.map_append]; simp]
            exact by walk_at "frm"
        · walk_at "opn"
          walk_at "vc"
          exact by walk_at "frm"
      · walk_at "opn"
        walk_at "vc"
        rw [box_all hl]
        exact hk _
end

/-! times, prices, gains, conjugates -/
section
variable {R : DL.N → En → Prop} {Z : Xc → En → Prop} {xs ys : List Int}
theorem times_road {ps p : Pt} (hl : ps.length ≤ 50) (hb : ∀ x ∈ p, -1000 ≤ x ∧ x ≤ 1000) (k : ∀ ρ, R (.dat (.int (tim ps p))) ρ) : dsp_times [.v (.dat (tI ps)), .v (.dat (tI p))] R Z := by
  unfold dsp_times dspOf w_times
  refine env_step (ρ' := [.v (.dat (tI ps)), .v (.dat (tI p)), .e, .e]) rfl ?_
  refine ret_step ?_
  walk_at "dl"
  rw [zip_i]
  refine lc_ints (enc := fun t : Int × Int => .tuple [.int t.1, .int t.2]) (fun t => t.1 * t.2) (by walk_at "dl") (fun t ht k q => ?_) (by rw [List.length_zip]; omega) ?_
  · have := hb _ (List.of_mem_zip ht).2
    walk_at "dl"
    exact ⟨by unfold CMul; omega, q⟩
  walk_at "dl"
  exact ⟨_, rfl, k _⟩
theorem ltimes_road {ps p : Pt} (hl : ps.length ≤ 50) (hb : ∀ x ∈ p, -1000 ≤ x ∧ x ≤ 1000) (k : ∀ ρ, R (.dat (.int (tim ps p))) ρ) : dsp__law_times [.v (.dat (tI ps)), .v (.dat (tI p))] R Z := by
  unfold dsp__law_times dspOf w__law_times
  refine env_step (ρ' := [.v (.dat (tI ps)), .v (.dat (tI p)), .e, .e]) rfl ?_
  refine ret_step ?_
  walk_at "dl"
  rw [zip_i]
  refine lc_ints (enc := fun t : Int × Int => .tuple [.int t.1, .int t.2]) (fun t => t.1 * t.2) (by walk_at "dl") (fun t ht k q => ?_) (by rw [List.length_zip]; omega) ?_
  · have := hb _ (List.of_mem_zip ht).2
    walk_at "dl"
    exact ⟨by unfold CMul; omega, q⟩
  walk_at "dl"
  exact ⟨_, rfl, k _⟩
theorem prices_road {m : Nat} {far : Int} {N : Nat} (hm : m ≤ 4) (hf : 0 ≤ far ∧ far ≤ 10000) (hN : N + 4 ≤ LIM) (k : ∀ ps : Pt, ps.length = m → DL.inR (-far) far ps → ∀ N', N' ≤ N + 4 → ∀ ρ, ρ[0]? = some (pT N') → R (.dat (tI ps)) ρ) : dsp__law_prices [pT N, .v (.dat (.int (m : Int))), .v (.dat (.int far))] R Z := by
  unfold dsp__law_prices dspOf w__law_prices
  refine env_step (ρ' := [pT N, .v (.dat (.int (m : Int))), .v (.dat (.int far)), .e]) rfl ?_
  refine ret_step ?_
  walk_at "dl"
  refine ⟨by omega, ?_⟩
  refine lc_relN (ρ := [pT N, .v (.dat (.int (m : Int))), .v (.dat (.int far)), .e]) (enc := eN) 0 pT 1 PyData.int (fun _ b => -far ≤ b ∧ b ≤ far) (fun N => by walk_at "dl") (by rw [List.length_range]; omega) (fun i hi N hN k q => ?_) (by simp; omega) fun es N2 hN2 h1 h2 => ?_
  · walk_at "dl"
    refine ⟨by unfold CMul; omega, dr_road (by omega) (by omega) (by omega) fun r N5 r1 hN5 ρ h0 => ?_⟩
    rw [h0]
    clear h0
    walk_at "dl"
    exact q _ N5 (by omega) (by omega)
  rw [List.length_range] at hN2 h1
  walk_at "dl"
  refine k es h1 (fun x hx => ?_) N2 (by omega) _ rfl
  obtain ⟨i, hi, rfl⟩ := List.getElem_of_mem hx
  exact h2 ((List.range m)[i]'(by rw [List.length_range]; omega), es[i]) (by
    have := List.getElem_zip (l := List.range m) (l' := es) (i := i) (h := by rw [List.length_zip, List.length_range, h1]; omega)
    rw [← this]
    exact List.getElem_mem _)
/-- the greatest gain -/
def gst (h : Hl) (ps : Pt) : Int := hiI (h.map fun p => tim ps p.1 - p.2)
theorem gain_road {ps : Pt} {p : Pt × Int} (hl : ps.length ≤ 50) (hb : ∀ x ∈ p.1, -1000 ≤ x ∧ x ≤ 1000) (k : ∀ ρ, R (.dat (.int (tim ps p.1 - p.2))) ρ) : dsp_gain [.v (.dat (tI ps)), .v (.dat (eH p))] R Z := by
  unfold dsp_gain dspOf w_gain
  refine env_step (ρ' := [.v (.dat (tI ps)), .v (.dat (eH p))]) rfl ?_
  refine ret_step ?_
  walk_at "dl"
  refine times_road hl hb fun ρ => ?_
  walk_at "dl"
  exact k _
theorem conj_road {m : Nat} {h : Hl} {ps : Pt} (H : HT m h) (hl : ps.length ≤ 50) (k : ∀ ρ, R (.dat (.int (gst h ps))) ρ) : dsp_conjugate_at [.v (.dat (tH h)), .v (.dat (tI ps))] R Z := by
  unfold dsp_conjugate_at dspOf w_conjugate_at
  have hlen := H.hl
  refine env_step (ρ' := [.v (.dat (tH h)), .v (.dat (tI ps)), .e]) rfl ?_
  refine ret_step ?_
  walk_at "dl"
  refine lc_ints (enc := eH) (fun p => tim ps p.1 - p.2) (by walk_at "dl") (fun p hp k q => ?_) (by omega) ?_
  · walk_at "dl"
    refine gain_road hl (fun x hx => by have := H.pt p hp x hx; omega) fun ρ => ?_
    exact q
  walk_at "dl"
  refine mx_list (xs := h.map fun p => tim ps p.1 - p.2) (fun e => H.ne (List.map_eq_nil_iff.mp e)) ?_
  exact k _
theorem greatest_road {m : Nat} {h : Hl} {ps : Pt} (H : HT m h) (hl : ps.length ≤ 50) (k : ∀ ρ, R (.dat (.int (gst h ps))) ρ) : dsp__law_greatest [.v (.dat (tH h)), .v (.dat (tI ps))] R Z := by
  unfold dsp__law_greatest dspOf w__law_greatest
  have hlen := H.hl
  refine env_step (ρ' := [.v (.dat (tH h)), .v (.dat (tI ps)), .e, .e]) rfl ?_
  refine ret_step ?_
  walk_at "dl"
  refine lc_ints (enc := eH) (fun p => tim ps p.1 - p.2) (by walk_at "dl") (fun p hp k q => ?_) (by omega) ?_
  · walk_at "dl"
    refine ltimes_road hl (fun x hx => by have := H.pt p hp x hx; omega) fun ρ => ?_
    walk_at "dl"
    exact q
  walk_at "dl"
  refine mx_list (xs := h.map fun p => tim ps p.1 - p.2) (fun e => H.ne (List.map_eq_nil_iff.mp e)) ?_
  exact k _
end

/-! hills of conjugates -/
def cnj (h : Hl) (lo hi : Pt) : Hl := (boxL lo hi).map fun ps => (ps, gst h ps)
def okW (p : Pt × Int) : Bool := decide (-1000 ≤ p.2) && decide (p.2 ≤ 1000)
structure RM (m : Nat) (lo hi : Pt) : Prop where
  l1 : lo.length = m
  l2 : hi.length = m
  bd : ∀ p ∈ List.zip lo hi, p.1 ≤ p.2 ∧ -20 ≤ p.1 ∧ p.2 ≤ 20
theorem all_bls {α : Type} (f : α → Bool) : ∀ l : List α, (l.map fun x => PyData.bool (f x)).all PyData.truthy = l.all f
  | [] => rfl
  | x :: l => by
    rw [List.map_cons, List.all_cons, List.all_cons, all_bls f l]
    rfl
theorem RM.zp {m : Nat} {lo hi : Pt} (B : RM m lo hi) : ∀ p ∈ List.zip lo hi, p.1 ≤ p.2 ∧ -1000 ≤ p.1 ∧ p.1 ≤ 1000 ∧ -1000 ≤ p.2 ∧ p.2 ≤ 1000 := fun p hp => by have := B.bd p hp; omega
theorem RM.box {m : Nat} {lo hi : Pt} (B : RM m lo hi) (c : szI (List.zip lo hi) ≤ 50) : (boxL lo hi).length ≤ 50 ∧ ∀ ps ∈ boxL lo hi, ps.length = m := by
  have e := B.l1.trans B.l2.symm
  have wl : ∀ p ∈ List.zip lo hi, p.1 ≤ p.2 := fun p hp => (B.bd p hp).1
  have l := fold_len (List.zip lo hi) [[]]
  rw [box_all e] at l
  have := szI_eq wl
  refine ⟨by rw [l]; simp; omega, fun ps hp => ?_⟩
  rw [((boxL_mem e).mp hp).1, B.l1]
theorem plain_bls {α : Type} (f : α → Bool) : ∀ l : List α, plainB (l.map fun x => .bool (f x))
  | [] => ⟨rfl, fun _ h => nomatch h⟩
  | x :: l => ⟨by show (true && PyData.plainAll _) = true; rw [(plain_bls f l).1]; rfl, List.forall_mem_cons.mpr ⟨by show True; trivial, (plain_bls f l).2⟩⟩
/-- what is due -/
def mnyD (n : Int) : List PyData := [.str "many", .int n, .bool true]
def dueD (h : Hl) (lo hi : Pt) : List PyData := if szI (List.zip lo hi) > 50 then mnyD 50 else if (cnj h lo hi).all okW = false then mnyD 1000 else [.str "told", tH (cnj h lo hi)]
section
variable {R : DL.N → En → Prop} {Z : Xc → En → Prop} {xs ys : List Int}
theorem chill_road {m : Nat} {h : Hl} {lo hi : Pt} (H : HT m h) (B : RM m lo hi) (k : szI (List.zip lo hi) ≤ 50 → (cnj h lo hi).all okW = true → ∀ ρ, R (.dat (tH (cnj h lo hi))) ρ) (k1 : szI (List.zip lo hi) > 50 → ∀ ρ, Z ⟨"TooMany", [("limit", .int 50)]⟩ ρ) (k2 : szI (List.zip lo hi) ≤ 50 → (cnj h lo hi).all okW = false → ∀ ρ, Z ⟨"TooMany", [("limit", .int 1000)]⟩ ρ) : dsp_conjugate_hill [.v (.dat (tH h)), .v (.dat (tI lo)), .v (.dat (tI hi))] R Z := by
  unfold dsp_conjugate_hill dspOf w_conjugate_hill
  have hm := H.m4
  refine seq_step fun K hK => ?_
  walk_at "dl"
  refine tables_road (B.l1.trans B.l2.symm) (by have := B.l1; omega) B.zp (by decide) (fun c ρ => ?_) (fun c ρ => ?_)
  · have hb := B.box c
    have hk := k c
    have hk2 := k2 c
    clear k k1 k2
    unfold cnj at hk hk2
    generalize boxL lo hi = bx at hb hk hk2
    walk_at "dl"
    refine lc_map (enc := tI) (fun ps => eH (ps, gst h ps)) (by walk_at "dl") (fun ps hps k q => ?_) (by omega) ?_
    · walk_at "dl"
      refine conj_road H (by have := hb.2 ps hps; omega) fun ρ => ?_
      walk_at "dl"
      exact ⟨by decide, q⟩
    rw [show bx.map (fun ps => eH (ps, gst h ps)) = (bx.map fun ps => (ps, gst h ps)).map eH by rw [List.map_map]; rfl]
    have gl : (bx.map fun ps => (ps, gst h ps)).length ≤ 50 := by rw [List.length_map]; exact hb.1
    generalize (bx.map fun ps => (ps, gst h ps)) = g at hk hk2 gl
    walk_at "dl"
    refine hK _ ?_
    clear hK
    refine seq_step fun K hK => if_step fun Ka Kb hKa hKb => ?_
    walk_at "dl"
    refine lc_map (enc := eH) (fun p => .bool (okW p)) (by walk_at "dl") (fun p hp k q => ?_) (by omega) ?_
    · unfold okW at q
      walk_at "dl"
      by_cases c1 : -1000 ≤ p.2
      · rw [if_pos c1]
        rw [decide_eq_true c1] at q
        exact q
      · rw [if_neg c1]
        rw [decide_eq_false c1] at q
        exact q
    walk_at "dl"
    refine ⟨plain_bls okW g, ?_⟩
    rw [all_bls]
    cases e : g.all okW with
    | true =>
      rw [if_neg (by decide)]
      refine hKb _ ?_
      clear hKa hKb
      walk_at "dl"
      refine hK _ ?_
      clear hK
      refine ret_step ?_
      walk_at "dl"
      exact hk e _
    | false =>
      rw [if_pos (by decide)]
      refine hKa _ ?_
      clear hKa hKb
      walk_at "dl"
      exact hk2 e _
  · exact k1 c _
/-- what is due, as the law reckons -/
theorem due_road {m : Nat} {h : Hl} {lo hi : Pt} (H : HT m h) (B : RM m lo hi) (k : ∀ ρ, R (.lst (dueD h lo hi)) ρ) : dsp__law_due [.v (.dat (tH h)), .v (.dat (tI lo)), .v (.dat (tI hi))] R Z := by
  unfold dsp__law_due dspOf w__law_due
  have hm := H.m4
  have e0 := B.l1.trans B.l2.symm
  unfold dueD at k
  refine seq_step fun K hK => ?_
  walk_at "dl"
  refine hK _ ?_
  clear hK
  refine seq_step fun K hK => for_step fun K2 hK2 => ?_
  walk_at "dl"
  rw [zip_i]
  refine hK2 _ _ (loop_split (enc := fun p : Int × Int => PyData.tuple [.int p.1, .int p.2]) (fun s ρ => Fr2 (fun s4 s5 => [.v (.dat (tH h)), .v (.dat (tI lo)), .v (.dat (tI hi)), .v (.dat (.int (szI s))), s4, s5, .e, .e, .e]) ρ) (List.zip lo hi) (List.zip lo hi) [] rfl (fun s p r hr ρ hP K3 hK3 => ?_) (fun ρ hP => ?_) _ (by walk_at "frm"))
  · walk_at "opn"
    have hp : p ∈ List.zip lo hi := by rw [← hr]; exact List.mem_append_right _ List.mem_cons_self
    obtain ⟨w1, w2, w3, w4, w5⟩ := B.zp p hp
    walk_at "dl"
    refine ⟨by unfold CMul; omega, hK3 _ ?_⟩
    rw [show szI s * (p.2 - p.1 + 1) = szI (s ++ [p]) by unfold szI; rw [List.foldl_append]; rfl]
    walk_at "frm"
  · walk_at "opn"
    refine hK _ ?_
    clear hK hK2
    refine seq_step fun K hK => if_step fun Ka Kb hKa hKb => ?_
    walk_at "dl"
    by_cases c : 50 < szI (List.zip lo hi)
    · rw [if_pos c] at k ⊢
      refine hKa _ ?_
      clear hKa hKb
      walk_at "dl"
      exact ⟨by decide, k _⟩
    · rw [if_neg c] at k ⊢
      refine hKb _ ?_
      clear hKa hKb
      walk_at "dl"
      refine hK _ ?_
      clear hK
      have hb := B.box (by omega)
      have hB : szN (List.zip lo hi) ≤ 400 := by
        have := szI_eq fun p hp => (B.bd p hp).1
        omega
      refine seq_step fun K hK => ?_
      walk_at "dl"
      refine tbox_road e0 (by have := B.l1; omega) B.zp hB fun ρ => ?_
      unfold cnj at k
      generalize boxL lo hi = bx at hb k
      generalize szI (List.zip lo hi) = many at c
      walk_at "dl"
      refine lc_map (enc := tI) (fun ps => eH (ps, gst h ps)) (by walk_at "dl") (fun ps hps k q => ?_) (by omega) ?_
      · walk_at "dl"
        refine greatest_road H (by have := hb.2 ps hps; omega) fun ρ => ?_
        walk_at "dl"
        exact ⟨by decide, q⟩
      rw [show bx.map (fun ps => eH (ps, gst h ps)) = (bx.map fun ps => (ps, gst h ps)).map eH by rw [List.map_map]; rfl]
      have gl : (bx.map fun ps => (ps, gst h ps)).length ≤ 50 := by rw [List.length_map]; exact hb.1
      generalize (bx.map fun ps => (ps, gst h ps)) = g at k gl
      walk_at "dl"
      refine hK _ ?_
      clear hK
      refine seq_step fun K hK => if_step fun Ka Kb hKa hKb => ?_
      walk_at "dl"
      refine lc_if (enc := eH) (fun p => !(okW p)) (fun _ => .int 0) (by walk_at "dl") (fun p hp k kn h1 h2 => ?_) (by omega) ?_
      · unfold okW at h1 h2
        walk_at "dl"
        by_cases c1 : -1000 ≤ p.2
        · rw [if_pos c1]
          by_cases c2 : p.2 ≤ 1000
          · rw [decide_eq_true c1, decide_eq_true c2] at h2
            rw [decide_eq_true c2, if_neg (by decide)]
            exact h2 rfl
          · rw [decide_eq_true c1, decide_eq_false c2] at h1
            rw [decide_eq_false c2, if_pos (by decide)]
            exact h1 rfl
        · rw [decide_eq_false c1] at h1
          rw [if_neg c1]
          exact h1 rfl
      have ef : g.all okW = true ↔ g.filter (fun p => !(okW p)) = [] := by
        rw [List.all_eq_true, List.filter_eq_nil_iff]
        exact forall_congr' fun p => forall_congr' fun _ => by cases okW p <;> simp
      generalize g.filter (fun p => !(okW p)) = F at ef
      walk_at "dl"
      refine ⟨by decide, ⟨(okB.lst (D := 0) (n := 0) fun x hx => by obtain ⟨z, _, rfl⟩ := List.mem_map.mp hx; exact okB.i (i := 0) (by decide)).shaped (by decide), rfl⟩, ?_⟩
      cases F with
      | nil =>
        have ea := ef.mpr rfl
        rw [if_neg (by rw [ea]; decide)] at k
        rw [if_neg (show ¬ (!(PyData.list (List.map (fun _ : Pt × Int => PyData.int 0) [])).eqv (PyData.list [])) = true from fun z => Bool.false_ne_true z)]
        refine hKb _ ?_
        clear hKa hKb
        walk_at "dl"
        refine hK _ ?_
        clear hK
        refine ret_step ?_
        walk_at "dl"
        exact ⟨by decide, k _⟩
      | cons a F =>
        have ea : g.all okW = false := by
          cases e : g.all okW with
          | false => rfl
          | true => exact absurd (ef.mp e) (by simp)
        rw [if_pos ea] at k
        rw [if_pos (show (!(PyData.list (List.map (fun _ : Pt × Int => PyData.int 0) (a :: F))).eqv (PyData.list [])) = true from rfl)]
        refine hKa _ ?_
        clear hKa hKb
        walk_at "dl"
        exact ⟨by decide, k _⟩
/-- what is told, or how it is refused -/
theorem asked_road {m : Nat} {h : Hl} {lo hi : Pt} {b : Bool} (H : HT m h) (B : RM m lo hi) (k : ∀ ρ, R (.lst (dueD h lo hi)) ρ) : dsp__law_asked [.v (.dat (tH h)), .v (.dat (tI lo)), .v (.dat (tI hi)), .v (.dat (.bool b))] R Z := by
  unfold dsp__law_asked dspOf w__law_asked
  unfold dueD mnyD at k
  refine env_step (ρ' := [.v (.dat (tH h)), .v (.dat (tI lo)), .v (.dat (tI hi)), .v (.dat (.bool b)), .e]) rfl ?_
  unfold sTryX
  refine seq_step fun K hK => ?_
  cases b with
  | true =>
    walk_at "dl"
    refine chill_road H B (fun c1 c2 ρ => ?_) (fun c1 ρ => ?_) (fun c1 c2 ρ => ?_)
    · rw [if_neg (by omega), if_neg (by rw [c2]; decide)] at k
      exact ⟨by decide, k _⟩
    · rw [if_pos c1] at k
      try dsimp only
      rw [show List.lookup (Str.ofString "TooMany") tabX_TooMany = some true by decide +kernel]
      try dsimp only
      intro a cls d
      refine ⟨by simp, ?_⟩
      rw [show List.lookup (Str.ofString "limit") [(Str.ofString "limit", PyData.int 50)] = some (.int 50) by rw [List.lookup_cons, beq_self_eq_true]]
      try dsimp only
      rw [show List.lookup (Str.ofString "TooMany") tabI_TooMany_HillError = some true by decide +kernel]
      exact ⟨by decide, k _⟩
    · rw [if_neg (by omega), if_pos c2] at k
      try dsimp only
      rw [show List.lookup (Str.ofString "TooMany") tabX_TooMany = some true by decide +kernel]
      try dsimp only
      intro a cls d
      refine ⟨by simp, ?_⟩
      rw [show List.lookup (Str.ofString "limit") [(Str.ofString "limit", PyData.int 1000)] = some (.int 1000) by rw [List.lookup_cons, beq_self_eq_true]]
      try dsimp only
      rw [show List.lookup (Str.ofString "TooMany") tabI_TooMany_HillError = some true by decide +kernel]
      exact ⟨by decide, k _⟩
  | false =>
    walk_at "dl"
    refine hK _ ?_
    clear hK
    walk_at "dl"
    refine chill_road H B (fun c1 c2 ρ => ?_) (fun c1 ρ => ?_) (fun c1 c2 ρ => ?_)
    · rw [if_neg (by omega), if_neg (by rw [c2]; decide)] at k
      exact ⟨by decide, k _⟩
    · rw [if_pos c1] at k
      try dsimp only
      rw [show List.lookup (Str.ofString "TooMany") tabX_TooMany = some true by decide +kernel]
      try dsimp only
      intro a cls d
      refine ⟨by simp, ?_⟩
      rw [show List.lookup (Str.ofString "limit") [(Str.ofString "limit", PyData.int 50)] = some (.int 50) by rw [List.lookup_cons, beq_self_eq_true]]
      try dsimp only
      rw [show List.lookup (Str.ofString "TooMany") tabI_TooMany_HillError = some true by decide +kernel]
      exact ⟨by decide, k _⟩
    · rw [if_neg (by omega), if_pos c2] at k
      try dsimp only
      rw [show List.lookup (Str.ofString "TooMany") tabX_TooMany = some true by decide +kernel]
      try dsimp only
      intro a cls d
      refine ⟨by simp, ?_⟩
      rw [show List.lookup (Str.ofString "limit") [(Str.ofString "limit", PyData.int 1000)] = some (.int 1000) by rw [List.lookup_cons, beq_self_eq_true]]
      try dsimp only
      rw [show List.lookup (Str.ofString "TooMany") tabI_TooMany_HillError = some true by decide +kernel]
      exact ⟨by decide, k _⟩
end

def w_r5 : WS := (sSeq (sFor (iRg1 (aCons (xO 1) aNil)) (gN 7) (sSeq (sSet 8 (wIf (wB (wO (oIs id) (xO 6) (xD (wC .none)))) (wCall 2 dsp__law_pick (aCons (xO 0) (aCons (xD (wV 2)) aNil))) (wO oIxA (xO 6) (xO 7)))) (sSeq (sSet 9 (wO oSub (xD (wCall 2 dsp__law_draw (aCons (xO 0) (aCons (xD (wO oSub (xD (wC (.int 42))) (xO 8))) aNil)))) (xD (wC (.int 20))))) (sSeq (sExp (wMt 3 mApp (aCons (xD (wIf (wB (wO (oEq id) (xD (wCall 2 dsp__law_draw (aCons (xO 0) (aCons (xD (wC (.int 2))) aNil)))) (xD (wC (.int 0))))) (wV 9) (wB1 (oB bMx2) (aCons (xD (wU oNeg (xD (wC (.int 20))))) (aCons (xD (wB1 (oB bMn2) (aCons (xD (wC (.int 0))) (aCons (xD (wO oSub (xD (wC (.int 20))) (xO 8))) aNil)))) aNil))))) aNil))) (sExp (wMt 4 mApp (aCons (xD (wB1 (oB bMn2) (aCons (xD (wC (.int 20))) (aCons (xD (wO oSub (xD (wO oCat (xD (wO oIxA (xO 3) (xD (wU oNeg (xD (wC (.int 1))))))) (xO 8))) (xD (wC (.int 1))))) aNil)))) aNil))))))) (sRet (wTup (aCons (xD (wB1 (oB bTup) (aCons (xO 3) aNil))) (aCons (xD (wB1 (oB bTup) (aCons (xO 4) aNil))) aNil)))))
def w_r4 : WS := (sSeq (sSet 6 (wIf (wAnd (wB (wO oGt (xO 1) (xD (wC (.int 1))))) (wB (wO (oEq id) (xD (wCall 2 dsp__law_draw (aCons (xO 0) (aCons (xD (wC (.int 4))) aNil)))) (xD (wC (.int 0)))))) (wCall 2 dsp__law_pick (aCons (xO 0) (aCons (xD (wO oIxA (xO 5) (xD (wO oSub (xO 1) (xD (wC (.int 2))))))) aNil))) (wC .none))) (sSeq (sFor (iRg1 (aCons (xO 1) aNil)) (gN 7) (sSeq (sSet 8 (wIf (wB (wO (oIs id) (xO 6) (xD (wC .none)))) (wCall 2 dsp__law_pick (aCons (xO 0) (aCons (xD (wV 2)) aNil))) (wO oIxA (xO 6) (xO 7)))) (sSeq (sSet 9 (wO oSub (xD (wCall 2 dsp__law_draw (aCons (xO 0) (aCons (xD (wO oSub (xD (wC (.int 42))) (xO 8))) aNil)))) (xD (wC (.int 20))))) (sSeq (sExp (wMt 3 mApp (aCons (xD (wIf (wB (wO (oEq id) (xD (wCall 2 dsp__law_draw (aCons (xO 0) (aCons (xD (wC (.int 2))) aNil)))) (xD (wC (.int 0))))) (wV 9) (wB1 (oB bMx2) (aCons (xD (wU oNeg (xD (wC (.int 20))))) (aCons (xD (wB1 (oB bMn2) (aCons (xD (wC (.int 0))) (aCons (xD (wO oSub (xD (wC (.int 20))) (xO 8))) aNil)))) aNil))))) aNil))) (sExp (wMt 4 mApp (aCons (xD (wB1 (oB bMn2) (aCons (xD (wC (.int 20))) (aCons (xD (wO oSub (xD (wO oCat (xD (wO oIxA (xO 3) (xD (wU oNeg (xD (wC (.int 1))))))) (xO 8))) (xD (wC (.int 1))))) aNil)))) aNil))))))) (sRet (wTup (aCons (xD (wB1 (oB bTup) (aCons (xO 3) aNil))) (aCons (xD (wB1 (oB bTup) (aCons (xO 4) aNil))) aNil))))))
def w_r2 : WS := (sSeq (sSetN 5 (wLst (aCons (xD (wLst (aCons (xD (wTup (aCons (xD (wC (.int 5))) (aCons (xD (wC (.int 10))) aNil)))) (aCons (xD (wTup (aCons (xD (wC (.int 10))) (aCons (xD (wC (.int 5))) aNil)))) (aCons (xD (wTup (aCons (xD (wC (.int 2))) (aCons (xD (wC (.int 25))) aNil)))) (aCons (xD (wTup (aCons (xD (wC (.int 25))) (aCons (xD (wC (.int 2))) aNil)))) (aCons (xD (wTup (aCons (xD (wC (.int 3))) (aCons (xD (wC (.int 17))) aNil)))) (aCons (xD (wTup (aCons (xD (wC (.int 17))) (aCons (xD (wC (.int 3))) aNil)))) aNil)))))))) (aCons (xD (wLst (aCons (xD (wTup (aCons (xD (wC (.int 5))) (aCons (xD (wC (.int 5))) (aCons (xD (wC (.int 2))) aNil))))) (aCons (xD (wTup (aCons (xD (wC (.int 2))) (aCons (xD (wC (.int 5))) (aCons (xD (wC (.int 5))) aNil))))) (aCons (xD (wTup (aCons (xD (wC (.int 1))) (aCons (xD (wC (.int 25))) (aCons (xD (wC (.int 2))) aNil))))) (aCons (xD (wTup (aCons (xD (wC (.int 17))) (aCons (xD (wC (.int 3))) (aCons (xD (wC (.int 1))) aNil))))) aNil)))))) aNil)))) (sSeq (sExp (wMt 5 mApp (aCons (xD (wLst (aCons (xD (wTup (aCons (xD (wC (.int 5))) (aCons (xD (wC (.int 5))) (aCons (xD (wC (.int 2))) (aCons (xD (wC (.int 1))) aNil)))))) (aCons (xD (wTup (aCons (xD (wC (.int 1))) (aCons (xD (wC (.int 2))) (aCons (xD (wC (.int 5))) (aCons (xD (wC (.int 5))) aNil)))))) (aCons (xD (wTup (aCons (xD (wC (.int 5))) (aCons (xD (wC (.int 1))) (aCons (xD (wC (.int 10))) (aCons (xD (wC (.int 1))) aNil)))))) (aCons (xD (wTup (aCons (xD (wC (.int 3))) (aCons (xD (wC (.int 1))) (aCons (xD (wC (.int 1))) (aCons (xD (wC (.int 17))) aNil)))))) aNil)))))) aNil))) (sSeq (sSet 6 (wIf (wAnd (wB (wO oGt (xO 1) (xD (wC (.int 1))))) (wB (wO (oEq id) (xD (wCall 2 dsp__law_draw (aCons (xO 0) (aCons (xD (wC (.int 4))) aNil)))) (xD (wC (.int 0)))))) (wCall 2 dsp__law_pick (aCons (xO 0) (aCons (xD (wO oIxA (xO 5) (xD (wO oSub (xO 1) (xD (wC (.int 2))))))) aNil))) (wC .none))) (sSeq (sFor (iRg1 (aCons (xO 1) aNil)) (gN 7) (sSeq (sSet 8 (wIf (wB (wO (oIs id) (xO 6) (xD (wC .none)))) (wCall 2 dsp__law_pick (aCons (xO 0) (aCons (xD (wV 2)) aNil))) (wO oIxA (xO 6) (xO 7)))) (sSeq (sSet 9 (wO oSub (xD (wCall 2 dsp__law_draw (aCons (xO 0) (aCons (xD (wO oSub (xD (wC (.int 42))) (xO 8))) aNil)))) (xD (wC (.int 20))))) (sSeq (sExp (wMt 3 mApp (aCons (xD (wIf (wB (wO (oEq id) (xD (wCall 2 dsp__law_draw (aCons (xO 0) (aCons (xD (wC (.int 2))) aNil)))) (xD (wC (.int 0))))) (wV 9) (wB1 (oB bMx2) (aCons (xD (wU oNeg (xD (wC (.int 20))))) (aCons (xD (wB1 (oB bMn2) (aCons (xD (wC (.int 0))) (aCons (xD (wO oSub (xD (wC (.int 20))) (xO 8))) aNil)))) aNil))))) aNil))) (sExp (wMt 4 mApp (aCons (xD (wB1 (oB bMn2) (aCons (xD (wC (.int 20))) (aCons (xD (wO oSub (xD (wO oCat (xD (wO oIxA (xO 3) (xD (wU oNeg (xD (wC (.int 1))))))) (xO 8))) (xD (wC (.int 1))))) aNil)))) aNil))))))) (sRet (wTup (aCons (xD (wB1 (oB bTup) (aCons (xO 3) aNil))) (aCons (xD (wB1 (oB bTup) (aCons (xO 4) aNil))) aNil))))))))
def smL (m : Nat) : List Int := ([[1, 2, 5, 40, 41], [3, 5, 7, 7], [2, 3, 4], [1, 2, 2, 3]] : List (List Int)).getD (m - 1) []
theorem smL_in {m : Nat} (hm : 1 ≤ m ∧ m ≤ 4) : (smL m).length ≤ 5 ∧ smL m ≠ [] ∧ ∀ x ∈ smL m, 1 ≤ x ∧ x ≤ 41 := by
  rcases (show m = 1 ∨ m = 2 ∨ m = 3 ∨ m = 4 by omega) with rfl | rfl | rfl | rfl <;> decide
abbrev eSd (o : Option (List Int)) : PyData := match o with
  | none => .none
  | some l => tI l
theorem zip_end {lo hi : List Int} {a b : Int} (e : lo.length = hi.length) {P : Int × Int → Prop} (h : ∀ p ∈ List.zip lo hi, P p) (h2 : P (a, b)) : ∀ p ∈ List.zip (lo ++ [a]) (hi ++ [b]), P p := fun p hp => by
  rw [List.zip_append e] at hp
  rcases List.mem_append.mp hp with hp | hp
  · exact h p hp
  · rw [List.zip_cons_cons, List.zip_nil_left, List.mem_singleton] at hp
    rw [hp]
    exact h2
section
variable {R : DL.N → En → Prop} {Z : Xc → En → Prop} {xs ys : List Int}
theorem room5 {D : DE} {m N : Nat} {ju : DL.N} {sd : Option (List Int)} (hm : 1 ≤ m ∧ m ≤ 4) (hs : ∀ l, sd = some l → l.length = m ∧ ∀ x ∈ l, 1 ≤ x ∧ x ≤ 25) (hN : N + 12 ≤ LIM)
    (k : ∀ (lo hi : Pt), RM m lo hi → ∀ N', N' ≤ N + 12 → ∀ ρ, ρ[0]? = some (pT N') → D.rt (.dat (.tuple [tI lo, tI hi])) ρ) :
    w_r5 Z D [pT N, .v (.dat (.int (m : Int))), .v (.dat (.list ((smL m).map .int))), .v (.lst []), .v (.lst []), .v ju, .v (.dat (eSd sd)), .e, .e, .e] := by
  have sm := smL_in hm
  unfold w_r5
  refine seq_step fun K hK => for_step fun K2 hK2 => ?_
  walk_at "dl"
  refine ⟨by omega, hK2 _ _ (loop_range (fun n ρ => ∃ (lo hi : Pt) (N' : Nat), N' ≤ N + 3 * n ∧ RM n lo hi ∧ Fr3 (fun s7 s8 s9 => [pT N', .v (.dat (.int (m : Int))), .v (.dat (.list ((smL m).map .int))), .v (.lst (lo.map .int)), .v (.lst (hi.map .int)), .v ju, .v (.dat (eSd sd)), s7, s8, s9]) ρ) m (fun n hn ρ hP K3 hK3 => ?_) (fun ρ hP => ?_) _ ⟨[], [], N, by omega, ⟨rfl, rfl, fun p hp => nomatch hp⟩, by walk_at "frm"⟩)⟩
  · obtain ⟨lo, hi, N1, hN1, B, hP⟩ := hP
    walk_at "opn"
    refine gN_step (by walk_at "dl") (by simp only [List.set_cons_succ, List.set_cons_zero]; rfl) ?_
    refine seq_step fun K4 hK4 => ?_
    have J : ∀ (sd' : Int) (N2 : Nat), N2 ≤ N1 + 1 → 1 ≤ sd' → sd' ≤ 41 → K4 [pT N2, .v (.dat (.int (m : Int))), .v (.dat (.list ((smL m).map .int))), .v (.lst (lo.map .int)), .v (.lst (hi.map .int)), .v ju, .v (.dat (eSd sd)), .v (.dat (.int (n : Int))), .v (.dat (.int sd')), DL.lo o3] := fun sd' N2 hN2 h1 h41 => by
      refine hK4 _ ?_
      clear hK4
      refine seq_step fun K5 hK5 => ?_
      walk_at "dl"
      refine dr_road (by omega) (by omega) (by omega) fun r N3 r1 hN3 ρ h0 => ?_
      rw [h0]
      clear h0
      walk_at "dl"
      refine hK5 _ ?_
      clear hK5
      refine seq_step fun K5 hK5 => ?_
      have J2 : ∀ (lv : Int) (N4 : Nat), N4 ≤ N3 + 1 → -20 ≤ lv → lv ≤ 20 → K5 [pT N4, .v (.dat (.int (m : Int))), .v (.dat (.list ((smL m).map .int))), .v (.lst ((lo ++ [lv]).map .int)), .v (.lst (hi.map .int)), .v ju, .v (.dat (eSd sd)), .v (.dat (.int (n : Int))), .v (.dat (.int sd')), .v (.dat (.int ((r : Int) - 20)))] := fun lv N4 hN4 l1 l2 => by
        refine hK5 _ ?_
        clear hK5
        have ll := B.l1
        have hl := B.l2
        have e1 : ∀ kk : PyData → Prop, atD ((lo ++ [lv]).map PyData.int) (-1) kk = kk (.int lv) := fun kk => by
          rw [List.map_append]
          exact atD_last
        walk_at "dl"
        rw [e1]
        try dsimp only
        generalize ev : (if lv + sd' - 1 < 20 then lv + sd' - 1 else 20) = hv
        have h1 : lv ≤ hv ∧ hv ≤ 20 := by split at ev <;> omega
        refine ⟨by omega, hK3 _ ⟨lo ++ [lv], hi ++ [hv], N4, by omega, ⟨by rw [List.length_append, ll]; rfl, by rw [List.length_append, hl]; rfl, zip_end (ll.trans hl.symm) B.bd ⟨h1.1, l1, h1.2⟩⟩, ?_⟩⟩
        rw [show hi.map PyData.int ++ [PyData.int hv] = (hi ++ [hv]).map PyData.int by rw [List.map_append]; rfl]
        walk_at "frm"
      clear hK5
      walk_at "dl"
      refine dr_road (by decide) (by decide) (by omega) fun r2 N4 r3 hN4 ρ h0 => ?_
      rw [h0]
      clear h0
      walk_at "dl"
      have ll := B.l1
      split
      · have := J2 ((r : Int) - 20) N4 hN4 (by omega) (by omega)
        rw [List.map_append] at this
        exact ⟨by omega, this⟩
      · generalize ev : (if (if 20 - sd' < 0 then 20 - sd' else 0) > -20 then if 20 - sd' < 0 then 20 - sd' else 0 else -20) = lv
        have h1 : -20 ≤ lv ∧ lv ≤ 20 := by split at ev <;> split at ev <;> omega
        have := J2 lv N4 hN4 h1.1 h1.2
        rw [List.map_append] at this
        exact ⟨by omega, this⟩
    clear hK4
    cases sd with
    | none =>
      dsimp only [eSd]
      walk_at "dl"
      rw [if_pos (show isN PyData.none = true from rfl)]
      refine pick_road (by rw [List.length_map]; exact List.length_pos_iff.mpr sm.2.1) (by rw [List.length_map]; omega) (by omega) fun y y1 N2 hN2 ρ h0 => ?_
      rw [h0]
      clear h0
      obtain ⟨z, hz, rfl⟩ := List.mem_map.mp y1
      have := sm.2.2 z hz
      exact J z N2 hN2 this.1 this.2
    | some l =>
      obtain ⟨l1, l2⟩ := hs l rfl
      dsimp only [eSd]
      walk_at "dl"
      rw [if_neg (show ¬ isN (tI l) = true from fun z => Bool.false_ne_true z), atD_g (by omega)]
      have := l2 _ (gI_mem (show n < l.length by omega))
      exact J _ N1 (by omega) this.1 (by omega)
  · obtain ⟨lo, hi, N1, hN1, B, hP⟩ := hP
    walk_at "opn"
    refine hK _ ?_
    clear hK hK2
    refine ret_step ?_
    walk_at "dl"
    exact ⟨by decide, k lo hi B N1 (by omega) _ rfl⟩
theorem atD_sm {m : Nat} {k : PyData → Prop} (h : 1 ≤ m ∧ m ≤ 4) : atD [PyData.list [.int 1, .int 2, .int 5, .int 40, .int 41], .list [.int 3, .int 5, .int 7, .int 7], .list [.int 2, .int 3, .int 4], .list [.int 1, .int 2, .int 2, .int 3]] ((m : Int) - 1) k = k (.list ((smL m).map .int)) := by
  rw [show (m : Int) - 1 = ((m - 1 : Nat) : Int) by omega, atD_nat (show m - 1 < 4 by omega)]
  rcases (show m = 1 ∨ m = 2 ∨ m = 3 ∨ m = 4 by omega) with rfl | rfl | rfl | rfl <;> rfl
def juL : List (List Pt) := [[[5, 10], [10, 5], [2, 25], [25, 2], [3, 17], [17, 3]], [[5, 5, 2], [2, 5, 5], [1, 25, 2], [17, 3, 1]], [[5, 5, 2, 1], [1, 2, 5, 5], [5, 1, 10, 1], [3, 1, 1, 17]]]
abbrev juD : List PyData := juL.map fun r => .list (r.map tI)
theorem juL_in {m : Nat} (hm : 2 ≤ m ∧ m ≤ 4) : 1 ≤ (juL.getD (m - 2) []).length ∧ (juL.getD (m - 2) []).length ≤ 6 ∧ ∀ l ∈ juL.getD (m - 2) [], l.length = m ∧ ∀ x ∈ l, 1 ≤ x ∧ x ≤ 25 := by
  rcases (show m = 2 ∨ m = 3 ∨ m = 4 by omega) with rfl | rfl | rfl <;> decide
theorem atD_ju {m : Nat} {k : PyData → Prop} (h : 2 ≤ m ∧ m ≤ 4) : atD juD ((m : Int) - 2) k = k (.list ((juL.getD (m - 2) []).map tI)) := by
  rw [show (m : Int) - 2 = ((m - 2 : Nat) : Int) by omega, atD_nat (show m - 2 < 3 by omega)]
  rcases (show m = 2 ∨ m = 3 ∨ m = 4 by omega) with rfl | rfl | rfl <;> rfl
theorem room4 {D : DE} {m N : Nat} (hm : 1 ≤ m ∧ m ≤ 4) (hN : N + 14 ≤ LIM)
    (k : ∀ (lo hi : Pt), RM m lo hi → ∀ N', N' ≤ N + 14 → ∀ ρ, ρ[0]? = some (pT N') → D.rt (.dat (.tuple [tI lo, tI hi])) ρ) :
    w_r4 Z D [pT N, .v (.dat (.int (m : Int))), .v (.dat (.list ((smL m).map .int))), .v (.lst []), .v (.lst []), .v (.lst juD), .e, .e, .e, .e] := by
  unfold w_r4
  refine seq_step fun K hK => ?_
  have J : ∀ (sd : Option (List Int)) (N' : Nat), N' ≤ N + 2 → (∀ l, sd = some l → l.length = m ∧ ∀ x ∈ l, 1 ≤ x ∧ x ≤ 25) → K [pT N', .v (.dat (.int (m : Int))), .v (.dat (.list ((smL m).map .int))), .v (.lst []), .v (.lst []), .v (.lst juD), .v (.dat (eSd sd)), .e, .e, .e] := fun sd N' hN' hs => hK _ (room5 hm hs (by omega) fun lo hi B N2 hN2 ρ h0 => k lo hi B N2 (by omega) ρ h0)
  clear hK k
  generalize hju : juD = ju at J
  walk_at "dl"
  split
  · rename_i c
    refine dr_road (by decide) (by decide) (by omega) fun r N1 r1 hN1 ρ h0 => ?_
    rw [h0]
    clear h0
    walk_at "dl"
    split
    · rw [← hju, atD_ju (by omega)]
      have jl := juL_in (m := m) (by omega)
      generalize juL.getD (m - 2) [] = js at jl
      rw [← hju] at J
      refine pick_road (by rw [List.length_map]; exact jl.1) (by rw [List.length_map]; omega) (by omega) fun y y1 N2 hN2 ρ h0 => ?_
      rw [h0]
      clear h0
      obtain ⟨l, hl, rfl⟩ := List.mem_map.mp y1
      exact J (some l) N2 (by omega) fun l' e => by cases e; exact jl.2.2 l hl
    · exact J none N1 (by omega) (fun l e => by cases e)
  · exact J none N (by omega) (fun l e => by cases e)
theorem room_road {m N : Nat} (hm : 1 ≤ m ∧ m ≤ 4) (hN : N + 14 ≤ LIM)
    (k : ∀ (lo hi : Pt), RM m lo hi → ∀ N', N' ≤ N + 14 → ∀ ρ, ρ[0]? = some (pT N') → R (.dat (.tuple [tI lo, tI hi])) ρ) : dsp__law_room [pT N, .v (.dat (.int (m : Int)))] R Z := by
  unfold dsp__law_room dspOf w__law_room
  refine env_step (ρ' := [pT N, .v (.dat (.int (m : Int))), .e, .e, .e, .e, .e, .e, .e, .e]) rfl ?_
  refine seq_step fun K hK => ?_
  walk_at "dl"
  rw [atD_sm hm]
  refine ⟨by decide, by decide, by decide, by decide, by decide, hK _ ?_⟩
  clear hK
  refine seq_step fun K hK => ?_
  walk_at "dl"
  refine ⟨by decide, by decide, hK _ ?_⟩
  clear hK
  refine seq_step fun K hK => ?_
  walk_at "dl"
  refine ⟨by decide, by decide, by decide, by decide, by decide, by decide, by decide, by decide, by decide, by decide, by decide, by decide, by decide, hK _ ?_⟩
  clear hK
  refine seq_step fun K hK => ?_
  walk_at "dl"
  refine ⟨by decide, by decide, by decide, by decide, by decide, by decide, hK _ ?_⟩
  clear hK
  exact room4 hm hN k
end

def w_y2b : WS := (sSeq (sSet 7 (wCall 3 dsp__law_prices (aCons (xO 1) (aCons (xD (wV 4)) (aCons (xD (wV 6)) aNil))))) (sSeq (sSet 8 (wCall 2 dsp__law_greatest (aCons (xD (wV 3)) (aCons (xD (wV 7)) aNil)))) (sIf (wB (wO (oEq not) (xD (wB1 (oB bRepr) (aCons (xD (wLst (aCons (xD (wCall 2 dsp_conjugate_at (aCons (xD (wV 3)) (aCons (xD (wV 7)) aNil)))) (aCons (xD (wCallK [1, 0] 0 2 dsp_conjugate_at aNil (aCons (xD (wV 7)) (aCons (xD (wV 3)) aNil)))) aNil)))) aNil))) (xD (wB1 (oB bRepr) (aCons (xD (wLst (aCons (xD (wV 8)) (aCons (xD (wV 8)) aNil)))) aNil))))) (sRet (wC (.bool false))) sNil)))
def w_y3b : WS := (sSeq (sAsg (wCall 2 dsp__law_room (aCons (xO 1) (aCons (xD (wV 4)) aNil))) (gsN 2 (gCons' (gN 10) (gCons' (gN 11) gNil')))) (sSeq (sSet 8 (wCall 3 dsp__law_due (aCons (xD (wV 3)) (aCons (xD (wV 10)) (aCons (xD (wV 11)) aNil))))) (sSeq (sSet 12 (wLst (aCons (xD (wCall 4 dsp__law_asked (aCons (xD (wV 3)) (aCons (xD (wV 10)) (aCons (xD (wV 11)) (aCons (xD (wC (.bool false))) aNil)))))) (aCons (xD (wCall 4 dsp__law_asked (aCons (xD (wV 3)) (aCons (xD (wV 10)) (aCons (xD (wV 11)) (aCons (xD (wC (.bool true))) aNil)))))) aNil)))) (sIf (wB (wO (oEq not) (xD (wB1 (oB bRepr) (aCons (xO 12) aNil))) (xD (wB1 (oB bRepr) (aCons (xD (wLst (aCons (xD (wV 8)) (aCons (xD (wV 8)) aNil)))) aNil))))) (sRet (wC (.bool false))) sNil))))
theorem prod_in {a b : Int} (ha : -10000 ≤ a ∧ a ≤ 10000) (hb : -20 ≤ b ∧ b ≤ 20) : -200000 ≤ a * b ∧ a * b ≤ 200000 := by
  have h1 : a.natAbs ≤ 10000 := by omega
  have h2 : b.natAbs ≤ 20 := by omega
  have h3 : (a * b).natAbs ≤ 10000 * 20 := by rw [Int.natAbs_mul]; exact Nat.mul_le_mul h1 h2
  omega
theorem tim_in {ps p : Pt} (h1 : DL.inR (-10000) 10000 ps) (h2 : DL.inR (-20) 20 p) (hl : p.length ≤ 4) : -800000 ≤ tim ps p ∧ tim ps p ≤ 800000 := by
  have := sum_in (lo := -200000) (hi := 200000) (l := (List.zip ps p).map fun t => t.1 * t.2) fun x hx => by
    obtain ⟨t, ht, rfl⟩ := List.mem_map.mp hx
    exact prod_in (h1 _ (List.of_mem_zip ht).1) (h2 _ (List.of_mem_zip ht).2)
  rw [List.length_map, List.length_zip] at this
  unfold tim
  omega
theorem gst_in {m : Nat} {h : Hl} {ps : Pt} (H : HT m h) (h1 : DL.inR (-10000) 10000 ps) : -1000000 ≤ gst h ps ∧ gst h ps ≤ 1000000 := by
  have b : ∀ p ∈ h, -1000000 ≤ tim ps p.1 - p.2 ∧ tim ps p.1 - p.2 ≤ 1000000 := fun p hp => by
    have := tim_in h1 (H.pt p hp) (by have := H.hp p hp; have := H.m4; omega)
    have := H.wo p hp
    omega
  have ne : (h.map fun p => tim ps p.1 - p.2) ≠ [] := fun e => H.ne (List.map_eq_nil_iff.mp e)
  unfold gst
  refine ⟨?_, (hiI_le ne).mpr fun x hx => ?_⟩
  · obtain ⟨p, hp⟩ := List.exists_mem_of_ne_nil _ H.ne
    have := (hiI_le (B := hiI (h.map fun p => tim ps p.1 - p.2)) ne).mp (Int.le_refl _) _ (List.mem_map_of_mem hp)
    have := b p hp
    omega
  · obtain ⟨p, hp, rfl⟩ := List.mem_map.mp hx
    exact (b p hp).2
theorem ok_many : okB 0 50 (.str "many") := ⟨by decide +kernel, by decide, by decide⟩
theorem ok_told : okB 0 50 (.str "told") := ⟨by decide +kernel, by decide, by decide⟩
theorem mem3 {α : Type} {P : α → Prop} {a b c : α} (h1 : P a) (h2 : P b) (h3 : P c) : ∀ z ∈ [a, b, c], P z := List.forall_mem_cons.mpr ⟨h1, mem2 h2 h3⟩
theorem due_ok {m : Nat} {h : Hl} {lo hi : Pt} (H : HT m h) (B : RM m lo hi) : okB 4 2400 (.list (dueD h lo hi)) := by
  have ml : ∀ n : Int, n.natAbs < 2 ^ 64 → okB 4 2400 (.list (mnyD n)) := fun n hn => by
    have := okB.lst (mem3 ok_many ((okB.i hn).le (Nat.le_refl _) (by decide)) ((okB.bl (b := true)).le (Nat.le_refl _) (by decide)))
    exact this.le (by decide) (by simp)
  unfold dueD
  split
  · exact ml 50 (by decide)
  · rename_i c
    split
    · exact ml 1000 (by decide)
    · have hb := B.box (by omega)
      have hm := H.m4
      have okh : ∀ p ∈ cnj h lo hi, okB 2 22 (eH p) := fun p hp => by
        obtain ⟨ps, hps, rfl⟩ := List.mem_map.mp hp
        have e0 := B.l1.trans B.l2.symm
        have pin : DL.inR (-20) 20 ps := fun x hx => by
          obtain ⟨i, hi', rfl⟩ := List.getElem_of_mem hx
          have pl := hb.2 ps hps
          have l1 := B.l1
          have l2 := B.l2
          have := ((boxL_mem e0).mp hps).2 i (by omega)
          rw [gI_at (show i < ps.length from hi'), gI_at (show i < lo.length by omega), gI_at (show i < hi.length by omega)] at this
          have zz : (lo[i]'(by omega), hi[i]'(by omega)) ∈ List.zip lo hi := by
            have := List.getElem_zip (l := lo) (l' := hi) (i := i) (h := by rw [List.length_zip]; omega)
            rw [← this]
            exact List.getElem_mem _
          have := B.bd _ zz
          dsimp only at this
          omega
        have := gst_in H (ps := ps) fun x hx => by have := pin x hx; omega
        exact okB_eH (fun x hx => by have := pin x hx; omega) (by have := hb.2 ps hps; dsimp only; omega) (by dsimp only; omega)
      have t := okB_tH okh
      have cl : (cnj h lo hi).length ≤ 50 := by unfold cnj; rw [List.length_map]; exact hb.1
      have := okB.lst (mem2 (ok_told.le (D' := 3) (n' := 1150) (by decide) (by decide)) (t.le (D' := 3) (n' := 1150) (by decide) (by omega)))
      exact this.le (by decide) (by simp)
section
variable {R : DL.N → En → Prop} {Z : KX} {xs ys : List Int}
theorem law_y2 {D : DE} {m N : Nat} {h : Hl} {ns : List Int} {far : Int} {T : Str} {o2 o7 o8 o9 o10 o11 o12 : Option PyData} (H : HT m h) (hf : 0 ≤ far ∧ far ≤ 10000) (hN : N + 4 ≤ LIM)
    (hend : ∀ N' o7 o8, N' ≤ N + 4 → D.nx [.v (.scr ns), vT N', DL.lo o2, .v (.dat (tH h)), .v (.dat (.int (m : Int))), .v (.dat (.str T)), .v (.dat (.int far)), DL.lo o7, DL.lo o8, DL.lo o9, DL.lo o10, DL.lo o11, DL.lo o12]) :
    w_y2b Z D [.v (.scr ns), vT N, DL.lo o2, .v (.dat (tH h)), .v (.dat (.int (m : Int))), .v (.dat (.str T)), .v (.dat (.int far)), DL.lo o7, DL.lo o8, DL.lo o9, DL.lo o10, DL.lo o11, DL.lo o12] := by
  have hm := H.m4
  unfold w_y2b
  refine seq_step fun K hK => ?_
  walk_at "dl"
  refine prices_road hm.2 hf hN fun ps pl pi N1 hN1 ρ h0 => ?_
  rw [h0]
  clear h0
  try dsimp only
  refine hK _ ?_
  clear hK
  have gi := gst_in H (ps := ps) fun x hx => by have := pi x hx; omega
  refine seq_step fun K hK => ?_
  walk_at "dl"
  refine greatest_road H (by omega) fun ρ => ?_
  walk_at "dl"
  refine hK _ ?_
  clear hK
  have cr : ∀ {R : DL.N → En → Prop} {Z : Xc → En → Prop}, (∀ ρ, R (.dat (.int (gst h ps))) ρ) → dsp_conjugate_at [.v (.dat (tH h)), .v (.dat (tI ps))] R Z := fun k => conj_road H (by omega) k
  generalize gst h ps = g at gi cr
  have rT : repD (.list [.int g, .int g]) := (okB.lst (mem2 (okB.i (by omega)) (okB.i (by omega)))).rep (by decide) (by simp)
  refine if_step fun Ka Kb hKa hKb => ?_
  walk_at "dl"
  refine cr fun ρ => ?_
  walk_at "dl"
  refine cr fun ρ => ?_
  walk_at "dl"
  refine ⟨by decide, rep_of rT ?_⟩
  refine ⟨by decide, rep_of rT ?_⟩
  try dsimp only
  rw [if_neg (by rw [beq_self_eq_true]; decide)]
  refine hKb _ ?_
  clear hKa hKb
  walk_at "dl"
  exact hend N1 (some _) (some _) hN1
theorem law_y3 {D : DE} {m N : Nat} {h : Hl} {ns : List Int} {T : Str} {a : PyData} {o2 o6 o7 o8 o10 o11 o12 : Option PyData} (H : HT m h) (hN : N + 14 ≤ LIM)
    (hend : ∀ N' o8 o10 o11 o12, N' ≤ N + 14 → D.nx [.v (.scr ns), vT N', DL.lo o2, .v (.dat (tH h)), .v (.dat (.int (m : Int))), .v (.dat (.str T)), DL.lo o6, DL.lo o7, DL.lo o8, .v (.dat a), DL.lo o10, DL.lo o11, DL.lo o12]) :
    w_y3b Z D [.v (.scr ns), vT N, DL.lo o2, .v (.dat (tH h)), .v (.dat (.int (m : Int))), .v (.dat (.str T)), DL.lo o6, DL.lo o7, DL.lo o8, .v (.dat a), DL.lo o10, DL.lo o11, DL.lo o12] := by
  have hm := H.m4
  unfold w_y3b
  refine seq_step fun K hK => ?_
  walk_at "dl"
  refine room_road hm hN fun lo hi B N1 hN1 ρ h0 => ?_
  rw [h0]
  clear h0
  walk_at "dl"
  refine hK _ ?_
  clear hK
  have dr : ∀ {R : DL.N → En → Prop} {Z : Xc → En → Prop}, (∀ ρ, R (.lst (dueD h lo hi)) ρ) → dsp__law_due [.v (.dat (tH h)), .v (.dat (tI lo)), .v (.dat (tI hi))] R Z := fun k => due_road H B k
  have ar : ∀ {R : DL.N → En → Prop} {Z : Xc → En → Prop} {b : Bool}, (∀ ρ, R (.lst (dueD h lo hi)) ρ) → dsp__law_asked [.v (.dat (tH h)), .v (.dat (tI lo)), .v (.dat (tI hi)), .v (.dat (.bool b))] R Z := fun k => asked_road H B k
  have od := due_ok H B
  generalize dueD h lo hi = d at dr ar od
  have rT : repD (.list [.list d, .list d]) := (okB.lst (mem2 od od)).rep (by decide) (by simp)
  refine seq_step fun K hK => ?_
  walk_at "dl"
  refine dr fun ρ => ?_
  walk_at "dl"
  refine hK _ ?_
  clear hK
  refine seq_step fun K hK => ?_
  walk_at "dl"
  refine ar fun ρ => ?_
  walk_at "dl"
  refine ar fun ρ => ?_
  walk_at "dl"
  refine ⟨by decide, hK _ ?_⟩
  clear hK
  refine if_step fun Ka Kb hKa hKb => ?_
  walk_at "dl"
  refine rep_of rT ?_
  refine ⟨by decide, rep_of rT ?_⟩
  try dsimp only
  rw [if_neg (by rw [beq_self_eq_true]; decide)]
  refine hKb _ ?_
  clear hKa hKb
  walk_at "dl"
  exact hend N1 (some _) (some _) (some _) (some _) hN1
end

theorem law_true (ns : List Int) (hl : ns.length ≤ 63) : dsp_law [.v (.scr ns)] (fun n _ => n = .dat (.bool true)) fun _ _ => False := by
  unfold dsp_law dspOf w_law
  refine seq_step fun K hK => ?_
  walk_at "dl"
  refine pot_road hl fun ρ h0 => ?_
  rw [h0]
  clear h0
  refine hK _ ?_
  clear hK
  refine seq_step fun K hK => ?_
  refine for_step fun Kl hKl => ?_
  walk_at "dl"
  refine ⟨by decide, ?_⟩
  refine hKl _ _ (loop_range (fun n ρ => ∃ N, N ≤ 200 * n ∧ Fr11 (fun a2 a3 a4 a5 a6 a7 a8 a9 aa ab ac => [.v (.scr ns), vT N, a2, a3, a4, a5, a6, a7, a8, a9, aa, ab, ac]) ρ) 3 (fun i hi ρ hP K hK => ?_) (fun ρ hP => ?_) _ ⟨0, by omega, by walk_at "frm"⟩)
  · obtain ⟨N, hN, hP⟩ := hP
    have hL : LIM = 1000000000 := rfl
    walk_at "opn"
    refine gN_step (by walk_at "dl") (by simp only [List.set_cons_succ, List.set_cons_zero]; rfl) ?_
    refine seq_step fun K1 hK1 => ?_
    walk_at "dl"
    refine hill_road (by omega) fun m h H N1 hN1 ρ h0 => ?_
    rw [h0]
    clear h0
    try dsimp only
    refine hK1 _ ?_
    clear hK1
    have okh : ∀ p ∈ h, okB 2 22 (eH p) := fun p mp => okB_eH (fun x hx => by have := H.pt p mp x hx; omega) (by have := H.hp p mp; have := H.m4; omega) (by have := H.wo p mp; omega)
    have hl := H.hl
    have rH : repD (tH h) := (okB_tH okh).rep (by decide) (by omega)
    obtain ⟨T, eT⟩ : ∃ T, (tH h).shown = T := ⟨_, rfl⟩
    refine seq_step fun K1 hK1 => ?_
    walk_at "dl"
    have h0l : 0 < h.length := List.length_pos_iff.mpr H.ne
    have e0 : ∀ kk : PyData → Prop, atD (h.map eH) 0 kk = kk (eH h[0]) := fun kk => by
      have := atD_nat (ds := h.map eH) (i := 0) (k := kk) (by rw [List.length_map]; exact h0l)
      rw [List.getElem_map] at this
      exact this
    rw [e0]
    clear e0
    have pl0 := H.hp h[0] (List.getElem_mem _)
    have hm := H.m4
    walk_at "dl"
    rw [pl0]
    refine rep_of rH ?_
    rw [eT]
    walk_at "dl"
    refine hK1 _ ?_
    clear hK1
    generalize o1 = x2 at *
    refine seq_step fun K1 hK1 => for_step fun K2 hK2 => ?_
    walk_at "dl"
    refine ⟨by decide, hK2 _ _ (loop_foldN (enc := PyData.int) (fun n (_ : Unit) ρ => ∃ N', N' ≤ N1 + 4 * n ∧ Fr7 (fun s6 s7 s8 s9 s10 s11 s12 => [.v (.scr ns), vT N', .v (.dat (eN i)), .v (.dat (tH h)), .v (.dat (.int (m : Int))), .v (.dat (.str T)), s6, s7, s8, s9, s10, s11, s12]) ρ) (fun s _ => s) 3 [2, 20, 10000] () 0 rfl (fun far hf n hn _ ρ hP K3 hK3 => ?_) (fun ρ hP => ?_) _ ⟨N1, by omega, by walk_at "frm"⟩)⟩
    · obtain ⟨N2, hN2, hP⟩ := hP
      walk_at "opn"
      refine gN_step (by walk_at "dl") (by simp only [List.set_cons_succ, List.set_cons_zero]; rfl) ?_
      have hf2 : 0 ≤ far ∧ far ≤ 10000 := by
        simp only [List.mem_cons, List.not_mem_nil, or_false] at hf
        omega
      exact law_y2 (o2 := some _) H hf2 (by omega) fun N' o7 o8 hN' => hK3 _ ⟨N', by omega, by walk_at "frm"⟩
    · obtain ⟨N2, hN2, hP⟩ := hP
      walk_at "opn"
      refine hK1 _ ?_
      clear hK1 hK2
      refine seq_step fun K1 hK1 => for_step fun K2 hK2 => ?_
      walk_at "dl"
      refine ⟨by decide, hK2 _ _ (loop_range (fun n ρ => ∃ N', N' ≤ N2 + 14 * n ∧ Fr7 (fun s6 s7 s8 s9 s10 s11 s12 => [.v (.scr ns), vT N', .v (.dat (eN i)), .v (.dat (tH h)), .v (.dat (.int (m : Int))), .v (.dat (.str T)), s6, s7, s8, s9, s10, s11, s12]) ρ) 2 (fun j hj ρ hP K3 hK3 => ?_) (fun ρ hP => ?_) _ ⟨N2, by omega, by walk_at "frm"⟩)⟩
      · obtain ⟨N3, hN3, hP⟩ := hP
        walk_at "opn"
        refine gN_step (by walk_at "dl") (by simp only [List.set_cons_succ, List.set_cons_zero]; rfl) ?_
        exact law_y3 (o2 := some _) H (by omega) fun N' o8 o10 o11 o12 hN' => hK3 _ ⟨N', by omega, by walk_at "frm"⟩
      · obtain ⟨N3, hN3, hP⟩ := hP
        walk_at "opn"
        refine hK1 _ ?_
        clear hK1 hK2
        refine if_step fun Ka Kb hKa hKb => ?_
        walk_at "dl"
        refine rep_of rH ?_
        rw [eT]
        try dsimp only
        rw [if_neg (by rw [beq_self_eq_true]; decide)]
        refine hKb _ ?_
        clear hKa hKb
        walk_at "dl"
        exact hK _ ⟨N3, by omega, by walk_at "frm"⟩
  · obtain ⟨N, hN, hP⟩ := hP
    walk_at "opn"
    refine hK _ ?_
    walk_at "dl"

end K22
open PySem PySem.W PyProof.Rows
set_option maxHeartbeats 0 in
theorem PySem.Challenge.cw_fullhills_k22_whole_conjugates_holds : PySem.Challenge.rw_fullhills_k22_whole_conjugates.Holds := by
  w_on; o_law; k_head; (case hw => w_witness2)
  k_fill
  refine DL.law_goal (l := PySem.Challenge.rw_fullhills_k22_whole_conjugates) (n := 63) (k := 6) (x := "script") (ds := K22.dsp_law) rfl (by decide) rfl ⟨rfl, by decide, by decide⟩ (fun w h Y => PySem.W.kIn_of Y) ?F K22.law_true
  case F =>
    intro w mg fa h KX G hmg
    refine' K22.all_mk KX G hmg ?a0 ?l0 ?c0 ?k0 ?a1 ?l1 ?c1 ?k1 ?a2 ?l2 ?c2 ?k2 ?a3 ?l3 ?c3 ?k3 ?a4 ?l4 ?c4 ?k4 ?a5 ?l5 ?c5 ?k5 ?a6 ?l6 ?c6 ?k6 ?a7 ?l7 ?c7 ?k7 ?a8 ?l8 ?c8 ?k8 ?a9 ?l9 ?c9 ?k9 ?a10 ?l10 ?c10 ?k10 ?a11 ?l11 ?c11 ?k11 ?a12 ?l12 ?c12 ?k12 ?a13 ?l13 ?c13 ?k13 ?a14 ?l14 ?c14 ?k14 ?a15 ?l15 ?c15 ?k15 ?a16 ?l16 ?c16 ?k16 ?a17 ?l17 ?c17 ?k17 ?a18 ?l18 ?c18 ?k18 ?a19 ?l19 ?c19 ?k19 ?a20 ?l20 ?c20 ?k20 ?a21 ?l21 ?c21 ?k21 ?a22 ?l22 ?c22 ?k22 ?a23 ?l23 ?c23 ?k23 ?a24 ?l24 ?c24 ?k24 ?z_abs ?z_all ?z_int ?z_isinstance ?z_len ?z_list ?z_max ?z_min ?z_range ?z_repr ?z_sum ?z_tuple ?z_zip ?y_MAX_POINTS ?y_MAX_WORTH ?a_HillError ?a_TooMany ?z_super ?top_ ?lC_TooMany ?hb_TooMany ?iC_TooMany ?cI_TooMany ?lf_TooMany ?hcd_TooMany ?lc_TooMany ?hv_TooMany ?hfl_TooMany ?lcc_TooMany ?hno_TooMany ?e1_TooMany ?e2_TooMany ?e3_TooMany ?e_TooMany_TooMany ?xf_TooMany ?xc_TooMany ?ki_TooMany_HillError
    (case a0 => k_is); (case l0 => k_is); (case c0 => k_is); (case k0 => k_is); (case a1 => k_is); (case l1 => k_is); (case c1 => k_is); (case k1 => k_is); (case a2 => k_is); (case l2 => k_is); (case c2 => k_is); (case k2 => k_is); (case a3 => k_is); (case l3 => k_is); (case c3 => k_is); (case k3 => k_is); (case a4 => k_is); (case l4 => k_is); (case c4 => k_is); (case k4 => k_is); (case a5 => k_is); (case l5 => k_is); (case c5 => k_is); (case k5 => k_is); (case a6 => k_is); (case l6 => k_is); (case c6 => k_is); (case k6 => k_is); (case a7 => k_is); (case l7 => k_is); (case c7 => k_is); (case k7 => k_is); (case a8 => k_is); (case l8 => k_is); (case c8 => k_is); (case k8 => k_is); (case a9 => k_is); (case l9 => k_is); (case c9 => k_is); (case k9 => k_is); (case a10 => k_is); (case l10 => k_is); (case c10 => k_is); (case k10 => k_is); (case a11 => k_is); (case l11 => k_is); (case c11 => k_is); (case k11 => k_is); (case a12 => k_is); (case l12 => k_is); (case c12 => k_is); (case k12 => k_is); (case a13 => k_is); (case l13 => k_is); (case c13 => k_is); (case k13 => k_is); (case a14 => k_is); (case l14 => k_is); (case c14 => k_is); (case k14 => k_is); (case a15 => k_is); (case l15 => k_is); (case c15 => k_is); (case k15 => k_is); (case a16 => k_is); (case l16 => k_is); (case c16 => k_is); (case k16 => k_is); (case a17 => k_is); (case l17 => k_is); (case c17 => k_is); (case k17 => k_is); (case a18 => k_is); (case l18 => k_is); (case c18 => k_is); (case k18 => k_is); (case a19 => k_is); (case l19 => k_is); (case c19 => k_is); (case k19 => k_is); (case a20 => k_is); (case l20 => k_is); (case c20 => k_is); (case k20 => k_is); (case a21 => k_is); (case l21 => k_is); (case c21 => k_is); (case k21 => k_is); (case a22 => k_is); (case l22 => k_is); (case c22 => k_is); (case k22 => k_is); (case a23 => k_is); (case l23 => k_is); (case c23 => k_is); (case k23 => k_is); (case a24 => k_is); (case l24 => k_is); (case c24 => k_is); (case k24 => k_is); (case z_abs => k_is); (case z_all => k_is); (case z_int => k_is); (case z_isinstance => k_is); (case z_len => k_is); (case z_list => k_is); (case z_max => k_is); (case z_min => k_is); (case z_range => k_is); (case z_repr => k_is); (case z_sum => k_is); (case z_tuple => k_is); (case z_zip => k_is); (case y_MAX_POINTS => k_is); (case y_MAX_WORTH => k_is); (case a_HillError => k_is); (case a_TooMany => k_is); (case z_super => k_is); (case top_ => exact rfl); (case lC_TooMany => k_is); (case hb_TooMany => exact rfl); (case iC_TooMany => k_is); (case cI_TooMany => constructor <;> first | k_is | ks_is); (case lf_TooMany => k_is); (case hcd_TooMany => k_is); (case lc_TooMany => k_is); (case hv_TooMany => exact rfl); (case hfl_TooMany => exact rfl); (case lcc_TooMany => k_is); (case hno_TooMany => k_is); (case e1_TooMany => k_is); (case e2_TooMany => k_is); (case e3_TooMany => k_is); (case e_TooMany_TooMany => k_is); (case xf_TooMany => constructor <;> first | k_is | ks_is); (case xc_TooMany => constructor <;> first | k_is | ks_is); (case ki_TooMany_HillError => first | kit_is | k_is)
