import PyProof.Rows.All
import Wide.All
import OpenK.AllK
import Wide.FinOn
import HandS.ForMost
import HandS.ForExc
import HandS.Defaults
import HandS.AnyAll
import HandS.TupAny
import HandS.Flow
import HandS.Style
import KE.KStateDown
import HandS.Base
import HandS.Call
import HandS.Ends
import HandS.More
import HandS.Words
import HandS.WordsExc
import HandS.Head0
import HandS.Head1
import HandS.Head2
import HandS.HeadEnd
import HandS.HeadHook1
import HandS.HeadHook2
import HandS.HeadHook3
import HandS.HeadHook4
import HandS.HeadWalk
import HandS.CallSlots
import HandS.IsInst
import HandS.TryOnly
import HandS.TryMany
import HandS.ExcOwn
import HandS.Lambda
import HandS.EndTab
import HandS.Deep
import HandS.Text
import HandS.LawCells
import HandS.Comp
import HandS.GenOver
import HandS.GenBody
import HandS.GenList
import HandS.Zip
import KE.DataMinMax
import KE.SortCalls
import HandS.SortOrd
import HandS.RaiseMore
import KE.KTupSum
import HandS.Strs
import HandS.Iter
import KE.DataCmp
import HandS.SetFor
import KE.DataMinKey
import HandS.Zip0
import HandS.SortKw
import KE.SortKeyed
import HandS.Conv
import HandS.Keys
import HandS.TupMul
import HandS.Dict
import HandS.Sort
import HandS.DictComp
import KE.KDictZip
import KE.KItemsList
import HandS.ListItems
import PySem.Challenge.RW_airfieldworks_k37_whole_flights_within_a
set_option Elab.async false
set_option linter.all false
set_option maxRecDepth 100000
set_option maxHeartbeats 0
namespace DL
open PySem PySem.Spec PyProof.Rows L2
abbrev Pd := Addr → Prop
abbrev Fr := PySem.W.Frag
/-- all objects but those of P and the code tables stay; tuples stay -/
structure Keep (P : Pd) (H H' : Hp) : Prop where
  tup : ∀ a xs, Rd H a (.tup xs) → Rd H' a (.tup xs)
  oth : ∀ a o, H a = some o → ¬ P a → (∀ ps, o ≠ .tbl ps) → H' a = some o
  thr : ∀ a, H a ≠ none → H' a ≠ none
theorem Keep.refl (P : Pd) (H : Hp) : Keep P H H := ⟨fun _ _ h => h, fun _ _ h _ _ => h, fun _ h => h⟩
theorem Keep.imp {P P' : Pd} {H H' : Hp} (k : Keep P H H') (h : ∀ a, P a → P' a) : Keep P' H H' := ⟨k.tup, fun a o e n t => k.oth a o e (fun z => n (h a z)) t, k.thr⟩
theorem Keep.trans {P P1 : Pd} {H H1 H2 : Hp} (a : Keep P H H1) (b : Keep P1 H1 H2) (h : ∀ a, P1 a → P a ∨ H a = none) : Keep P H H2 :=
  ⟨fun x xs e => b.tup x xs (a.tup x xs e), fun x o e n t => b.oth x o (a.oth x o e n t) (fun z => (h x z).elim n fun q => by rw [e] at q; cases q) t, fun x e => b.thr x (a.thr x e)⟩
theorem Keep.fresh {P : Pd} {H H' : Hp} (k : Keep P H H') {a : Addr} (h : H' a = none) : H a = none := Classical.byContradiction fun z => k.thr a z h
abbrev P0 : Pd := fun _ => False
abbrev P1 : Pd := fun _ => True
theorem Keep.any {P : Pd} {H H' : Hp} (k : Keep P0 H H') : Keep P H H' := k.imp fun _ z => z.elim
theorem Keep.tr0 {P : Pd} {H H1 H2 : Hp} (a : Keep P H H1) (b : Keep P0 H1 H2) : Keep P H H2 := a.trans b fun _ z => z.elim
theorem rd_upd {H : Hp} {a p : Addr} {o u : HO} (r : Rd H a u) (h : a ≠ p) : Rd (upd H p o) a u := by
  rcases r with r | ⟨ob, r⟩
  · exact .inl (by rw [upd_ne h]; exact r)
  · exact .inr ⟨ob, by rw [upd_ne h]; exact r⟩
theorem upd_thr {H : Hp} {a p : Addr} {o : HO} (h : H a ≠ none) : upd H p o a ≠ none := by
  by_cases e : a = p
  · rw [e, upd_same]; intro z; cases z
  · rw [upd_ne e]; exact h
theorem rdThere {H : Hp} {a : Addr} {u : HO} (r : Rd H a u) : H a ≠ none := by
  rcases r with r | ⟨o, r⟩ <;> (rw [r]; intro z; cases z)
/-- a new object -/
theorem Keep.new {P : Pd} {H : Hp} {p : Addr} {o : HO} (h : H p = none) : Keep P H (upd H p o) :=
  ⟨fun a xs e => rd_upd e fun z => rdThere e (by rw [z]; exact h), fun a u e _ _ => by rw [upd_ne (ne_of_none e h)]; exact e, fun _ z => upd_thr z⟩
/-- an object of P is written -/
theorem Keep.set {P : Pd} {H : Hp} {p : Addr} {o : HO} (h : P p) (n : ∀ xs, ¬ Rd H p (.tup xs)) : Keep P H (upd H p o) :=
  ⟨fun a xs e => rd_upd e fun z => n xs (by subst z; exact e), fun a u e np _ => by rw [upd_ne (fun z => np (by subst z; exact h))]; exact e, fun _ z => upd_thr z⟩
def keyD : L2.Key → PyData
  | .inl i => .int i
  | .inr x => .str x
mutual
/-- v is the data d; lists within stand outside of P -/
inductive Fz (K : Fr) (P : Pd) (H : Hp) : V → PyData → Prop
  | non : Fz K P H .non .none
  | bl (b : Bool) : Fz K P H (.bl b) (.bool b)
  | int (i : Int) : Fz K P H (.int i) (.int i)
  | str (x : PySem.Str) : PySem.PyData.canLay0 (.str x) = true → x.length ≤ 100000 → Fz K P H (.str x) (.str x)
  | lst {a : Addr} {xs : List V} {ds : List PyData} : H a = some (.lst xs) → ¬ P a → FzA K P H xs ds → Fz K P H (.ref a) (.list ds)
  | tup {a : Addr} {xs : List V} {ds : List PyData} : SqT K H a xs → FzA K P H xs ds → Fz K P H (.ref a) (.tuple ds)
inductive FzA (K : Fr) (P : Pd) (H : Hp) : List V → List PyData → Prop
  | nil : FzA K P H [] []
  | cons {v : V} {vs : List V} {d : PyData} {ds : List PyData} : Fz K P H v d → FzA K P H vs ds → FzA K P H (v :: vs) (d :: ds)
end
section
variable {K : Fr} {P P' : Pd} {H H' : Hp}
theorem rd_keep {a : Addr} {u : HO} (r : Rd H a u) (k : Keep P H H') (n : ¬ P a) (nt : ∀ ps, u ≠ .tbl ps) : Rd H' a u := by
  rcases r with r | ⟨o, r⟩
  · exact .inl (k.oth a _ r n nt)
  · exact .inr ⟨o, k.oth a _ r n (fun ps z => by cases z)⟩
theorem sqt_keep {a : Addr} {xs : List V} (r : SqT K H a xs) (k : Keep P H H') : SqT K H' a xs := by
  rcases r with r | r
  · exact .inl (k.tup a xs r)
  · exact .inr r
mutual
theorem Fz.mono (k : Keep P H H') (hp : ∀ a, P' a → P a ∨ H a = none) : ∀ {v : V} {d : PyData}, Fz K P H v d → Fz K P' H' v d
  | _, _, .non => .non
  | _, _, .bl b => .bl b
  | _, _, .int i => .int i
  | _, _, .str x h h2 => .str x h h2
  | _, _, .lst r n a => .lst (k.oth _ _ r n (fun ps z => by cases z)) (fun z => (hp _ z).elim n (rdThere (.inl r))) (FzA.mono k hp a)
  | _, _, .tup r a => .tup (sqt_keep r k) (FzA.mono k hp a)
theorem FzA.mono (k : Keep P H H') (hp : ∀ a, P' a → P a ∨ H a = none) : ∀ {vs : List V} {ds : List PyData}, FzA K P H vs ds → FzA K P' H' vs ds
  | _, _, .nil => .nil
  | _, _, .cons a b => .cons (Fz.mono k hp a) (FzA.mono k hp b)
end
theorem Fz.keep0 (k : Keep P0 H H') {v : V} {d : PyData} (h : Fz K P H v d) : Fz K P H' v d := h.mono k.any fun _ z => .inl z
theorem FzA.keep0 (k : Keep P0 H H') {v : List V} {d : List PyData} (h : FzA K P H v d) : FzA K P H' v d := h.mono k.any fun _ z => .inl z
theorem Fz.anti (hp : ∀ a, P' a → P a) {v : V} {d : PyData} (h : Fz K P H v d) : Fz K P' H v d := h.mono (Keep.refl P H) fun a z => .inl (hp a z)
theorem FzA.anti (hp : ∀ a, P' a → P a) {v : List V} {d : List PyData} (h : FzA K P H v d) : FzA K P' H v d := h.mono (Keep.refl P H) fun a z => .inl (hp a z)
theorem FzA.length : ∀ {vs : List V} {ds : List PyData}, FzA K P H vs ds → vs.length = ds.length
  | _, _, .nil => rfl
  | _, _, .cons _ b => congrArg (· + 1) (FzA.length b)
theorem FzA.append : ∀ {vs ws : List V} {ds es : List PyData}, FzA K P H vs ds → FzA K P H ws es → FzA K P H (vs ++ ws) (ds ++ es)
  | _, _, _, _, .nil, h => h
  | _, _, _, _, .cons a b, h => .cons a (FzA.append b h)
theorem FzA.get : ∀ {vs : List V} {ds : List PyData} {i : Nat} {d : PyData}, FzA K P H vs ds → ds[i]? = some d → ∃ v, vs[i]? = some v ∧ Fz K P H v d
  | _, _, _, _, .nil, e => by simp at e
  | _, _, 0, _, .cons a _, e => by simp at e; subst e; exact ⟨_, rfl, a⟩
  | _, _, i + 1, d, .cons _ b, e => by
    obtain ⟨v, h1, h2⟩ := FzA.get (i := i) (d := d) b (by simpa using e)
    exact ⟨v, by simpa using h1, h2⟩
theorem FzA.getV : ∀ {vs : List V} {ds : List PyData} {i : Nat} {v : V}, FzA K P H vs ds → vs[i]? = some v → ∃ d, ds[i]? = some d ∧ Fz K P H v d
  | _, _, _, _, .nil, e => by simp at e
  | _, _, 0, _, .cons a _, e => by simp at e; subst e; exact ⟨_, rfl, a⟩
  | _, _, i + 1, d, .cons _ b, e => by
    obtain ⟨v, h1, h2⟩ := FzA.getV (i := i) (v := d) b (by simpa using e)
    exact ⟨v, by simpa using h1, h2⟩
theorem FzA.set : ∀ {vs : List V} {ds : List PyData} {v : V} {d : PyData} (i : Nat), FzA K P H vs ds → Fz K P H v d → FzA K P H (vs.set i v) (ds.set i d)
  | _, _, _, _, _, .nil, _ => .nil
  | _, _, _, _, 0, .cons _ b, h => .cons h b
  | _, _, _, _, i + 1, .cons a b, h => .cons a (FzA.set i b h)
theorem FzA.take : ∀ {vs : List V} {ds : List PyData} (i : Nat), FzA K P H vs ds → FzA K P H (vs.take i) (ds.take i)
  | _, _, 0, _ => .nil
  | _, _, i + 1, .nil => .nil
  | _, _, i + 1, .cons a b => .cons a (FzA.take i b)
theorem FzA.drop : ∀ {vs : List V} {ds : List PyData} (i : Nat), FzA K P H vs ds → FzA K P H (vs.drop i) (ds.drop i)
  | _, _, 0, h => h
  | _, _, i + 1, .nil => .nil
  | _, _, i + 1, .cons a b => FzA.drop i b
theorem FzA.rev : ∀ {vs : List V} {ds : List PyData}, FzA K P H vs ds → FzA K P H vs.reverse ds.reverse
  | _, _, .nil => .nil
  | _, _, .cons a b => by
    rw [List.reverse_cons, List.reverse_cons]
    exact (FzA.rev b).append (.cons a .nil)
theorem FzA.ints (P : Pd) (H : Hp) : ∀ ns : List Int, FzA K P H (ns.map V.int) (ns.map PyData.int)
  | [] => .nil
  | n :: ns => .cons (.int n) (FzA.ints P H ns)
end
/-- what the object o holds -/
inductive Cont (K : Fr) (P : Pd) (H : Hp) : HO → PyData → Prop
  | lst {xs : List V} {ds : List PyData} : FzA K P H xs ds → Cont K P H (.lst xs) (.list ds)
  | dK {l : List (L2.Key × V)} {kvs : List (PyData × PyData)} : kvs.map (·.1) = l.map (fun p => keyD p.1) → FzA K P H (l.map (·.2)) (kvs.map (·.2)) → Cont K P H (.dK l) (.dict kvs)
  | dT {l : List (List L2.Key × V)} {kvs : List (PyData × PyData)} : kvs.map (·.1) = l.map (fun p => .tuple (p.1.map keyD)) → FzA K P H (l.map (·.2)) (kvs.map (·.2)) → Cont K P H (.dT l) (.dict ((.none, .none) :: kvs))
section
variable {K : Fr} {P P' : Pd} {H H' : Hp}
theorem Cont.mono {o : HO} {d : PyData} (k : Keep P H H') (hp : ∀ a, P' a → P a ∨ H a = none) (h : Cont K P H o d) : Cont K P' H' o d := by
  cases h with
  | lst a => exact .lst (a.mono k hp)
  | dK e a => exact .dK e (a.mono k hp)
  | dT e a => exact .dT e (a.mono k hp)
theorem Cont.noTbl {o : HO} {d : PyData} (h : Cont K P H o d) : ∀ ps, o ≠ .tbl ps := by
  cases h <;> (intro ps z; cases z)
theorem Cont.noTup {o : HO} {d : PyData} (h : Cont K P H o d) : ∀ xs, o ≠ .tup xs := by
  cases h <;> (intro ps z; cases z)
theorem Cont.mut {o : HO} {d : PyData} (h : Cont K P H o d) : Mut (some o) := by
  cases h <;> trivial
/-- the object at a may be written -/
def Own (K : Fr) (P : Pd) (H : Hp) (a : Addr) (d : PyData) : Prop := ∃ o, H a = some o ∧ Cont K P H o d
/-- .. may be read (a dict that a loop walks stands under a lock) -/
def RdX (H : Hp) (a : Addr) (o : HO) : Prop := H a = some o ∨ ((∀ xs, o ≠ .lst xs) ∧ ∃ ob, H a = some (.frz ob o))
theorem RdX.rd {a : Addr} {o : HO} (h : RdX H a o) : Rd H a o := h.imp id fun z => z.2
theorem RdX.keep {a : Addr} {u : HO} (r : RdX H a u) (k : Keep P H H') (n : ¬ P a) (nt : ∀ ps, u ≠ .tbl ps) : RdX H' a u := by
  rcases r with r | ⟨l, o, r⟩
  · exact .inl (k.oth a _ r n nt)
  · exact .inr ⟨l, o, k.oth a _ r n (fun ps z => by cases z)⟩
def Cr (K : Fr) (P : Pd) (H : Hp) (a : Addr) (d : PyData) : Prop := ∃ o, RdX H a o ∧ Cont K P H o d
theorem Own.cr {a : Addr} {d : PyData} (h : Own K P H a d) : Cr K P H a d := let ⟨o, e, c⟩ := h; ⟨o, .inl e, c⟩
theorem Own.keep0 {a : Addr} {d : PyData} (k : Keep P0 H H') (h : Own K P H a d) : Own K P H' a d := let ⟨o, e, c⟩ := h; ⟨o, k.oth a o e (fun z => z) c.noTbl, c.mono k.any fun _ z => .inl z⟩
theorem Cr.keep0 {a : Addr} {d : PyData} (k : Keep P0 H H') (h : Cr K P H a d) : Cr K P H' a d := let ⟨o, e, c⟩ := h; ⟨o, e.keep k (fun z => z) c.noTbl, c.mono k.any fun _ z => .inl z⟩
/-- v may be read as d: its root stands anywhere -/
def Br (K : Fr) (P : Pd) (H : Hp) (v : V) (d : PyData) : Prop := Fz K P H v d ∨ ∃ a, v = .ref a ∧ Cr K P H a d
theorem Br.keep0 {v : V} {d : PyData} (k : Keep P0 H H') (h : Br K P H v d) : Br K P H' v d := by
  rcases h with h | ⟨a, e, h⟩
  · exact .inl (h.keep0 k)
  · exact .inr ⟨a, e, h.keep0 k⟩
end
/-- own; own, given by the caller (stands at its slot to the end); lent (a loop walks it) -/
inductive Kd | ow | io | ln
inductive AS where
  | un
  /-- data -/
  | v (d : PyData)
  /-- a dict to be read -/
  | b (d : PyData)
  | o (k : Kd) (d : PyData)
abbrev AE := List AS
/-- the roots of a frame's own lists and dicts -/
def Rt (σa : AE) (σ : L2.St) : Pd := fun a => ∃ (i : Nat) (k : Kd) (d : PyData), σa[i]? = some (AS.o k d) ∧ σ[i]? = some (some (V.ref a))
def Mu (σa : AE) (σ : L2.St) : Pd := fun a => ∃ (i : Nat) (k : Kd) (d : PyData), σa[i]? = some (AS.o k d) ∧ k ≠ .ln ∧ σ[i]? = some (some (V.ref a))
def OwnK (K : Fr) (P : Pd) (H : Hp) (a : Addr) (d : PyData) : Kd → Prop
  | .ln => Cr K P H a d
  | _ => Own K P H a d
/-- a point that a frame's states are measured by: the heap then, what may be written that stood then, slots that stand, the code tables -/
structure RC where
  H0 : Hp
  inn : Pd
  pins : List (Nat × V)
  tabs : List Addr
  /-- what the caller may write later -/
  old : Pd
abbrev Pr (c : RC) (σa : AE) (σ : L2.St) : Pd := fun a => Rt σa σ a ∨ c.old a
theorem pr_imp {c : RC} {σa σa' : AE} {σ σ' : L2.St} (h : ∀ a, Rt σa' σ' a → Rt σa σ a) : ∀ a, Pr c σa' σ' a → Pr c σa σ a := fun a z => z.imp (h a) id
theorem pr_or {c : RC} {σa σa' : AE} {σ σ' : L2.St} {Hb : Hp} (h : ∀ a, Rt σa' σ' a → Rt σa σ a ∨ Hb a = none) : ∀ a, Pr c σa' σ' a → Pr c σa σ a ∨ Hb a = none := fun a z => z.elim (fun z => (h a z).imp .inl id) fun z => .inl (.inr z)
/-- the table of codes at t: all that it tells are code objects -/
def TabC (H : Hp) (t : Addr) : Prop := ∃ ps : Array Value, H t = some (.tbl ps) ∧ TriplesOk ps.toList ∧ ∀ (pos : Pos) (cv : Value), codeAmong pos ps.toList = some cv → ∃ (c : Addr) (q : PySem.Str), cv = .ref c ∧ H c = some (LamX.CodeO c q)
theorem TabC.ext {H H' : Hp} {t : Addr} (h : TabC H t) (e : ∀ b o, H b = some o → (b = t ∨ ∃ q, o = LamX.CodeO b q) → H' b = some o) : TabC H' t := by
  obtain ⟨ps, h1, h2, h3⟩ := h
  refine ⟨ps, e _ _ h1 (.inl rfl), h2, fun pos cv hc => ?_⟩
  obtain ⟨c, q, e1, e2⟩ := h3 pos cv hc
  exact ⟨c, q, e1, e _ _ e2 (.inr ⟨q, rfl⟩)⟩
/-- another object was written -/
theorem TabC.upd {H : Hp} {t a : Addr} {o u : HO} (h : TabC H t) (e : H a = some o) (h1 : ∀ ps, o ≠ .tbl ps) (h2 : ∀ q, o ≠ LamX.CodeO a q) : TabC (L2.upd H a u) t := by
  refine h.ext fun b w e1 hu => ?_
  have nb : b ≠ a := fun z => by
    rw [z, e] at e1
    cases e1
    rcases hu with hu | ⟨q, hu⟩
    · obtain ⟨ps, h3, _⟩ := h
      rw [← hu, z, e] at h3
      exact h1 ps (Option.some.inj h3)
    · exact h2 q (z ▸ hu)
  rw [upd_ne nb]
  exact e1
theorem lst_ne_code {xs : List V} {a : Addr} (q : PySem.Str) : HO.lst xs ≠ LamX.CodeO a q := fun z => by
  unfold LamX.CodeO at z
  cases z
theorem TabC.g {H : Hp} {t : Addr} (h : TabC H t) : GxR.TabG H t := let ⟨ps, a, b, _⟩ := h; ⟨ps, a, b⟩
/-- the codes' tables that K tells (they stand outside of K) -/
def TabsOf (K : Fr) : List Addr := K.filterMap fun p => match p.2 with
  | ⟨.type "code", _, .fields vs, _⟩ => match (vs[11]? : Option Value) with
    | some (.ref t) => if (K.lookup t).isNone = true then some t else none
    | _ => none
  | _ => none
structure Rst (K : Fr) (c : RC) (H : Hp) (σa : AE) (σ : L2.St) : Prop where
  len : σa.length = σ.length
  val : ∀ (i : Nat) (d : PyData), σa[i]? = some (AS.v d) → ∃ v, σ[i]? = some (some v) ∧ Fz K (Pr c σa σ) H v d
  bor : ∀ (i : Nat) (d : PyData), σa[i]? = some (AS.b d) → ∃ a, σ[i]? = some (some (V.ref a)) ∧ ¬ Rt σa σ a ∧ Cr K (Pr c σa σ) H a d
  own : ∀ (i : Nat) (k : Kd) (d : PyData), σa[i]? = some (AS.o k d) → ∃ a, σ[i]? = some (some (V.ref a)) ∧ OwnK K (Pr c σa σ) H a d k
  inj : ∀ (i j : Nat) (k k' : Kd) (d d' : PyData) (a : Addr), σa[i]? = some (AS.o k d) → σa[j]? = some (AS.o k' d') → σ[i]? = some (some (V.ref a)) → σ[j]? = some (some (V.ref a)) → i = j
  keep : Keep c.inn c.H0 H
  muta : ∀ a, Mu σa σ a → c.inn a ∨ c.H0 a = none
  pin : ∀ p ∈ c.pins, σ[p.1]? = some (some p.2) ∧ ∃ (k : Kd) (d : PyData), σa[p.1]? = some (AS.o k d) ∧ k ≠ .ow
  lnp : ∀ (i : Nat) (d : PyData), σa[i]? = some (AS.o .ln d) → ∃ v, (i, v) ∈ c.pins
  tab : ∀ t ∈ c.tabs, TabC H t
  oldT : ∀ a, c.old a → c.H0 a ≠ none
  tabE : c.tabs = TabsOf K
  ino : ∀ a, c.inn a → ¬ c.old a
/-- all is kept, the tables stay tables -/
structure Kp (ts : List Addr) (H H' : Hp) : Prop where
  k : Keep P0 H H'
  t : ∀ t ∈ ts, TabC H' t
section
variable {K : Fr} {c : RC} {H H' H'' : Hp} {σa : AE} {σ : L2.St}
theorem OwnK.keep0 {P : Pd} {a : Addr} {d : PyData} {k : Kd} (q : Keep P0 H H') (h : OwnK K P H a d k) : OwnK K P H' a d k := by
  cases k
  · exact Own.keep0 q h
  · exact Own.keep0 q h
  · exact Cr.keep0 q h
theorem OwnK.cr {P : Pd} {a : Addr} {d : PyData} {k : Kd} (h : OwnK K P H a d k) : Cr K P H a d := by
  cases k
  · exact Own.cr h
  · exact Own.cr h
  · exact h
theorem Cr.there {P : Pd} {a : Addr} {d : PyData} (h : Cr K P H a d) : H a ≠ none := let ⟨_, r, _⟩ := h; rdThere r.rd
theorem Rst.rt (Z : Rst K c H σa σ) {a : Addr} (h : Rt σa σ a) : H a ≠ none := by
  obtain ⟨i, k, d, h1, h2⟩ := h
  obtain ⟨b, h3, h4⟩ := Z.own i k d h1
  rw [h2] at h3; cases h3
  exact (OwnK.cr h4).there
theorem Rst.kp (Z : Rst K c H σa σ) (k : Kp c.tabs H H') : Rst K c H' σa σ where
  len := Z.len
  val := fun i d h => let ⟨v, h1, h2⟩ := Z.val i d h; ⟨v, h1, h2.keep0 k.k⟩
  bor := fun i d h => let ⟨a, h1, h2, h3⟩ := Z.bor i d h; ⟨a, h1, h2, h3.keep0 k.k⟩
  own := fun i kd d h => let ⟨a, h1, h2⟩ := Z.own i kd d h; ⟨a, h1, h2.keep0 k.k⟩
  inj := Z.inj
  keep := Z.keep.tr0 k.k
  muta := Z.muta
  pin := Z.pin
  lnp := Z.lnp
  tab := k.t
  oldT := Z.oldT
  tabE := Z.tabE
  ino := Z.ino
theorem Rst.noOld (Z : Rst K c H σa σ) {a : Addr} (h : Mu σa σ a) : ¬ c.old a := fun z => (Z.muta a h).elim (fun q => Z.ino a q z) (Z.oldT a z)
theorem Rst.pr (Z : Rst K c H σa σ) {a : Addr} (h : Pr c σa σ a) : H a ≠ none := h.elim Z.rt fun z => Z.keep.thr a (Z.oldT a z)
theorem Kp.refl (Z : Rst K c H σa σ) : Kp c.tabs H H := ⟨Keep.refl _ _, Z.tab⟩
theorem Kp.trans {ts : List Addr} (a : Kp ts H H') (b : Kp ts H' H'') : Kp ts H H'' := ⟨a.k.tr0 b.k, b.t⟩
theorem Kp.new {ts : List Addr} {p : Addr} {o : HO} (t : ∀ t ∈ ts, TabC H t) (h : H p = none) : Kp ts H (upd H p o) :=
  ⟨Keep.new h, fun x hx => (t x hx).ext fun b u e _ => by rw [upd_ne (ne_of_none e h)]; exact e⟩
end
inductive Rs (α : Type) where
  | st
  | ex (e : PySem.Str)
  | ok (a : α)
def Rs.bind {α β : Type} (r : Rs α) (f : α → Rs β) : Rs β := match r with
  | .st => .st
  | .ex e => .ex e
  | .ok a => f a
@[simp] theorem Rs.bind_st {α β : Type} (f : α → Rs β) : Rs.bind .st f = .st := rfl
@[simp] theorem Rs.bind_ex {α β : Type} (e : PySem.Str) (f : α → Rs β) : Rs.bind (.ex e) f = .ex e := rfl
@[simp] theorem Rs.bind_ok {α β : Type} (a : α) (f : α → Rs β) : Rs.bind (.ok a) f = f a := rfl
/-- an expression's value: data (fr: its root, a list or a dict, was made just now); or the own list of a slot -/
inductive AV where
  | d (fr : Bool) (x : PyData)
  | sl (i : Nat)
def AvR (K : Fr) (c : RC) (σa : AE) (σ : L2.St) (H0 H : Hp) : AV → V → Prop
  | .d false x, v => Fz K (Pr c σa σ) H v x
  | .d true x, v => ∃ p, v = .ref p ∧ H0 p = none ∧ Own K (fun a => Pr c σa σ a ∨ a = p) H p x
  | .sl i, v => σ[i]? = some (some v) ∧ ∃ d, σa[i]? = some (AS.b d) ∨ ∃ k, σa[i]? = some (AS.o k d)
/-- the data of such a value, to be read -/
def gt (σa : AE) : AV → Rs PyData
  | .d _ x => .ok x
  | .sl i => match σa[i]? with
    | some (.o _ d) => .ok d
    | some (.b d) => .ok d
    | _ => .st
/-- .. to be stored within something -/
def gz : AV → Rs PyData
  | .d false x => .ok x
  | .d true (.list x) => .ok (.list x)
  | _ => .st
/-- .. to be handed to a def -/
def ga (σa : AE) : AV → Rs PyData
  | .d false x => .ok x
  | .d true (.list x) => .ok (.list x)
  | .d true _ => .st
  | .sl i => match σa[i]? with
    | some (.o _ (.list d)) => .ok (.list d)
    | _ => .st
/-- .. a dict -/
def gd (σa : AE) : AV → Rs PyData
  | .d true (.dict x) => .ok (.dict x)
  | .d _ _ => .st
  | .sl i => match σa[i]? with
    | some (.o _ (.dict d)) => .ok (.dict d)
    | some (.b (.dict d)) => .ok (.dict d)
    | _ => .st
section
variable {K : Fr} {c : RC} {H0 H H' : Hp} {σa : AE} {σ : L2.St}
theorem AvR.keep0 {av : AV} {v : V} (k : Keep P0 H H') (h : AvR K c σa σ H0 H av v) : AvR K c σa σ H0 H' av v := by
  match av, h with
  | .d false x, h => exact Fz.keep0 k h
  | .d true x, ⟨p, e, n, o⟩ => exact ⟨p, e, n, o.keep0 k⟩
  | .sl i, h => exact h
theorem AvR.base {H1 : Hp} {av : AV} {v : V} (k : Keep P0 H1 H0) (h : AvR K c σa σ H0 H av v) : AvR K c σa σ H1 H av v := by
  match av, h with
  | .d false x, h => exact h
  | .d true x, ⟨p, e, n, o⟩ => exact ⟨p, e, k.fresh n, o⟩
  | .sl i, h => exact h
theorem Cont.weak {P P' : Pd} {o : HO} {d : PyData} (hp : ∀ a, P' a → P a) (h : Cont K P H o d) : Cont K P' H o d := h.mono (Keep.refl _ _) fun a z => .inl (hp a z)
theorem AvR.br {av : AV} {v : V} {d : PyData} (Z : Rst K c H σa σ) (h : AvR K c σa σ H0 H av v) (e : gt σa av = .ok d) : Br K (Pr c σa σ) H v d := by
  match av, h with
  | .d false x, h => cases e; exact .inl h
  | .d true x, ⟨p, ev, n, o, eo, co⟩ => cases e; exact .inr ⟨p, ev, o, .inl eo, co.weak fun _ z => .inl z⟩
  | .sl i, ⟨h, x, hs⟩ =>
    replace e : (match σa[i]? with
      | some (.o _ d) => .ok d
      | some (.b d) => .ok d
      | _ => .st : Rs PyData) = .ok d := e
    rcases hs with hs | ⟨k, hs⟩
    · rw [hs] at e
      cases e
      obtain ⟨a, h1, h2, h3⟩ := Z.bor i _ hs
      rw [h] at h1; cases h1
      exact .inr ⟨a, rfl, h3⟩
    · rw [hs] at e
      cases e
      obtain ⟨a, h1, h2⟩ := Z.own i k _ hs
      rw [h] at h1; cases h1
      exact .inr ⟨a, rfl, OwnK.cr h2⟩
theorem AvR.fz {av : AV} {v : V} {d : PyData} (Z : Rst K c H0 σa σ) (h : AvR K c σa σ H0 H av v) (e : gz av = .ok d) : Fz K (Pr c σa σ) H v d := by
  match av, h with
  | .d false x, h => cases e; exact h
  | .d true (.list x), ⟨p, ev, n, o, eo, co⟩ =>
    cases e
    subst ev
    cases co with
    | lst a => exact .lst eo (fun z => Z.pr z n) (a.anti fun _ z => .inl z)
  | .d true .none, _ => cases e
  | .d true (.bool _), _ => cases e
  | .d true (.int _), _ => cases e
  | .d true (.str _), _ => cases e
  | .d true (.tuple _), _ => cases e
  | .d true (.dict _), _ => cases e
  | .sl i, _ => cases e
theorem AvR.arg {av : AV} {v : V} {d : PyData} (Z : Rst K c H σa σ) (h : AvR K c σa σ H0 H av v) (e : ga σa av = .ok d) : Fz K P0 H v d := by
  match av, h with
  | .d false x, h => cases e; exact h.anti fun _ z => z.elim
  | .d true (.list x), ⟨p, ev, n, o, eo, co⟩ =>
    cases e
    subst ev
    cases co with
    | lst a => exact .lst eo (fun z => z) (a.anti fun _ z => z.elim)
  | .d true .none, _ => cases e
  | .d true (.bool _), _ => cases e
  | .d true (.int _), _ => cases e
  | .d true (.str _), _ => cases e
  | .d true (.tuple _), _ => cases e
  | .d true (.dict _), _ => cases e
  | .sl i, ⟨h, x, hs⟩ =>
    replace e : (match σa[i]? with
      | some (.o _ (.list d)) => .ok (.list d)
      | _ => .st : Rs PyData) = .ok d := e
    rcases hs with hs | ⟨k, hs⟩
    · rw [hs] at e; cases e
    · rw [hs] at e
      cases x with
      | list x =>
        cases e
        obtain ⟨a, h1, h2⟩ := Z.own i k _ hs
        rw [h] at h1; cases h1
        obtain ⟨o, r, co⟩ := OwnK.cr h2
        cases co with
        | lst a =>
          rcases r with r | ⟨l, _⟩
          · exact .lst r (fun z => z) (a.anti fun _ z => z.elim)
          · exact absurd rfl (l _)
      | _ => cases e
theorem AvR.argD {av : AV} {v : V} {d : PyData} (Z : Rst K c H σa σ) (h : AvR K c σa σ H0 H av v) (e : gd σa av = .ok d) : ∃ a, v = .ref a ∧ Cr K P0 H a d := by
  match av, h with
  | .d false x, h => cases e
  | .d true (.dict x), ⟨p, ev, n, o, eo, co⟩ => cases e; exact ⟨p, ev, o, .inl eo, co.weak fun _ z => z.elim⟩
  | .d true .none, _ => cases e
  | .d true (.bool _), _ => cases e
  | .d true (.int _), _ => cases e
  | .d true (.str _), _ => cases e
  | .d true (.tuple _), _ => cases e
  | .d true (.list _), _ => cases e
  | .sl i, ⟨h, x, hs⟩ =>
    replace e : (match σa[i]? with
      | some (.o _ (.dict d)) => .ok (.dict d)
      | some (.b (.dict d)) => .ok (.dict d)
      | _ => .st : Rs PyData) = .ok d := e
    rcases hs with hs | ⟨k, hs⟩
    · rw [hs] at e
      cases x with
      | dict x =>
        cases e
        obtain ⟨a, h1, h2, o, r, co⟩ := Z.bor i _ hs
        rw [h] at h1; cases h1
        exact ⟨a, rfl, o, r, co.weak fun _ z => z.elim⟩
      | _ => cases e
    · rw [hs] at e
      cases x with
      | dict x =>
        cases e
        obtain ⟨a, h1, h2⟩ := Z.own i k _ hs
        rw [h] at h1; cases h1
        obtain ⟨o, r, co⟩ := OwnK.cr h2
        exact ⟨a, rfl, o, r, co.weak fun _ z => z.elim⟩
      | _ => cases e
end
end DL
namespace DL
open PySem PySem.Spec PyProof.Rows L2
theorem pe_mono {X : Cx} {e : Expr} {t t' : TE} (h : PE X e t) (q : ∀ σ H Q, t' σ H Q → t σ H Q) : PE X e t' := ⟨fun pins s σ H Q I z => h.run pins s σ H Q I (q _ _ _ z)⟩
theorem pt_mono {X : Cx} {e : Expr} {t t' : TT} (h : PT X e t) (q : ∀ σ H Q, t' σ H Q → t σ H Q) : PT X e t' := ⟨fun pins s σ H Q I z => h.run pins s σ H Q I (q _ _ _ z)⟩
theorem pw_mono {X : Cx} {e : Expr} {t t' : TT} (h : PW X e t) (q : ∀ σ H Q, t' σ H Q → t σ H Q) : PW X e t' := ⟨fun w pins s σ H Q I z => h.run w pins s σ H Q I (q _ _ _ z)⟩
theorem pa_mono {X : Cx} {e : List Expr} {t t' : TA} (h : PA X e t) (q : ∀ σ H Q, t' σ H Q → t σ H Q) : PA X e t' := ⟨fun p pins s σ H Q I z => h.run p pins s σ H Q I (q _ _ _ z)⟩
theorem ps_mono {X : Cx} {e : Stmt} {t t' : TS} (h : PS X e t) (q : ∀ D σ H, t' D σ H → t D σ H) : PS X e t' := ⟨fun pins s σ H D I z => h.run pins s σ H D I (q _ _ _ z)⟩
theorem pss_mono {X : Cx} {e : List Stmt} {t t' : TS} (h : PSs X e t) (q : ∀ D σ H, t' D σ H → t D σ H) : PSs X e t' := ⟨fun pins s σ H D I z => h.run pins s σ H D I (q _ _ _ z)⟩
def Go (K : Fr) (W : WX) (c : RC) (σ : L2.St) (H : Hp) {α : Type} (r : Rs α) (k : α → Prop) : Prop := match r with
  | .st => False
  | .ex e => ∀ H', Kp c.tabs H H' → W (.ref (He.ga K e)) none σ H'
  | .ok a => k a
section
variable {K : Fr} {W : WX} {c : RC} {σ : L2.St} {H H1 : Hp} {α β : Type}
theorem Go.bind {r : Rs α} {f : α → Rs β} {k : β → Prop} (h : Go K W c σ H (r.bind f) k) : Go K W c σ H r fun a => Go K W c σ H (f a) k := by
  cases r with
  | st => exact h
  | ex e => exact h
  | ok a => exact h
theorem Go.mono {r : Rs α} {k k' : α → Prop} (h : Go K W c σ H r k) (m : ∀ a, k a → k' a) : Go K W c σ H r k' := by
  cases r with
  | st => exact h
  | ex e => exact h
  | ok a => exact m a h
theorem Go.later {r : Rs α} {k : α → Prop} (q : Kp c.tabs H H1) (h : Go K W c σ H r k) : Go K W c σ H1 r k := by
  cases r with
  | st => exact h
  | ex e => exact fun H' z => h H' (q.trans z)
  | ok a => exact h
end
/-- readings: a value, a value that is read, data to be stored, data for a def -/
def tD (K : Fr) (W : WX) (f : AE → Rs AV) : TE := fun σ H Q => ∃ c σa, Rst K c H σa σ ∧ Go K W c σ H (f σa) fun av => ∀ v H', Kp c.tabs H H' → AvR K c σa σ H H' av v → Q v H'
def tRd (K : Fr) (W : WX) (f : AE → Rs PyData) : TE := fun σ H Q => ∃ c σa, Rst K c H σa σ ∧ Go K W c σ H (f σa) fun d => ∀ v H', Kp c.tabs H H' → Br K (Pr c σa σ) H' v d → Q v H'
def tFz (K : Fr) (W : WX) (f : AE → Rs PyData) : TE := fun σ H Q => ∃ c σa, Rst K c H σa σ ∧ Go K W c σ H (f σa) fun d => ∀ v H', Kp c.tabs H H' → Fz K (Pr c σa σ) H' v d → Q v H'
def tTs (K : Fr) (W : WX) (f : AE → Rs Bool) : TT := fun σ H Q => ∃ c σa, Rst K c H σa σ ∧ Go K W c σ H (f σa) fun b => ∀ H', Kp c.tabs H H' → Q b H'
abbrev DE (X : Cx) (W : WX) (e : Expr) (f : AE → Rs AV) : Prop := PE X e (tD X.K W f)
abbrev DR (X : Cx) (W : WX) (e : Expr) (f : AE → Rs PyData) : Prop := PE X e (tRd X.K W f)
abbrev DF (X : Cx) (W : WX) (e : Expr) (f : AE → Rs PyData) : Prop := PE X e (tFz X.K W f)
abbrev DT (X : Cx) (W : WX) (e : Expr) (f : AE → Rs Bool) : Prop := PT X e (tTs X.K W f)
abbrev DW (X : Cx) (W : WX) (e : Expr) (f : AE → Rs Bool) : Prop := PW X e (tTs X.K W f)
/-- of an option -/
def Rs.of {α : Type} : Option α → Rs α
  | some a => .ok a
  | none => .st
@[simp] theorem Rs.of_some {α : Type} (a : α) : Rs.of (some a) = .ok a := rfl
@[simp] theorem Rs.of_none {α : Type} : (Rs.of none : Rs α) = .st := rfl
def rd (f : AE → Rs AV) : AE → Rs PyData := fun s => (f s).bind (gt s)
def fz (f : AE → Rs AV) : AE → Rs PyData := fun s => (f s).bind gz
def eC (d : PyData) : AE → Rs AV := fun _ => .ok (.d false d)
def eV (i : Nat) : AE → Rs AV := fun s => match s[i]? with
  | some (.v d) => .ok (.d false d)
  | some (.b _) => .ok (.sl i)
  | some (.o _ _) => .ok (.sl i)
  | _ => .st
def eU (op : PyData → Option AV) (fa : AE → Rs PyData) : AE → Rs AV := fun s => (fa s).bind fun d => Rs.of (op d)
def eB (op : PyData → PyData → Option AV) (fa fb : AE → Rs PyData) : AE → Rs AV := fun s => (fa s).bind fun d => (fb s).bind fun e => Rs.of (op d e)
abbrev dv (x : PyData) : AV := .d false x
abbrev dn (x : PyData) : AV := .d true x
section
variable {K : Fr} {P : Pd} {H : Hp} {v : V}
theorem cr_no {a : Addr} {d : PyData} (h : Cr K P H a d) : (∃ l, d = .list l) ∨ ∃ l, d = .dict l := by
  obtain ⟨o, r, co⟩ := h
  cases co with
  | lst _ => exact .inl ⟨_, rfl⟩
  | dK _ _ => exact .inr ⟨_, rfl⟩
  | dT _ _ => exact .inr ⟨_, rfl⟩
theorem br_fz {d : PyData} (h : Br K P H v d) (n1 : ∀ l, d ≠ .list l) (n2 : ∀ l, d ≠ .dict l) : Fz K P H v d := by
  rcases h with h | ⟨a, _, h⟩
  · exact h
  · rcases cr_no h with ⟨l, e⟩ | ⟨l, e⟩
    · exact absurd e (n1 l)
    · exact absurd e (n2 l)
theorem br_int {i : Int} (h : Br K P H v (.int i)) : v = .int i := by
  have h := br_fz h (fun _ z => nomatch z) (fun _ z => nomatch z)
  cases h; rfl
theorem br_bool {i : Bool} (h : Br K P H v (.bool i)) : v = .bl i := by
  have h := br_fz h (fun _ z => nomatch z) (fun _ z => nomatch z)
  cases h; rfl
theorem br_none (h : Br K P H v .none) : v = .non := by
  have h := br_fz h (fun _ z => nomatch z) (fun _ z => nomatch z)
  cases h; rfl
theorem br_str {i : PySem.Str} (h : Br K P H v (.str i)) : v = .str i ∧ PyData.canLay0 (.str i) = true ∧ i.length ≤ 100000 := by
  have h := br_fz h (fun _ z => nomatch z) (fun _ z => nomatch z)
  cases h with
  | str _ h1 h2 => exact ⟨rfl, h1, h2⟩
theorem br_tup {l : List PyData} (h : Br K P H v (.tuple l)) : ∃ a xs, v = .ref a ∧ SqT K H a xs ∧ FzA K P H xs l := by
  have h := br_fz h (fun _ z => nomatch z) (fun _ z => nomatch z)
  cases h with
  | tup r a => exact ⟨_, _, rfl, r, a⟩
theorem br_lst {l : List PyData} (h : Br K P H v (.list l)) : ∃ a xs, v = .ref a ∧ H a = some (.lst xs) ∧ FzA K P H xs l := by
  rcases h with h | ⟨a, e, o, r, co⟩
  · cases h with
    | lst r _ a => exact ⟨_, _, rfl, r, a⟩
  · cases co with
    | lst h =>
      rcases r with r | ⟨l, _⟩
      · exact ⟨_, _, e, r, h⟩
      · exact absurd rfl (l _)
theorem br_dict {l : List (PyData × PyData)} (h : Br K P H v (.dict l)) : ∃ a, v = .ref a ∧ Cr K P H a (.dict l) := by
  rcases h with h | h
  · cases h
  · exact h
end
section
variable {X : Cx} {W : WX} {e a b : Expr} {f fa fb : AE → Rs AV} {g ga gb : AE → Rs PyData} {pos : Pos}
theorem gt_noex (s : AE) (av : AV) (e : PySem.Str) : gt s av ≠ .ex e := by
  cases av with
  | d fr x => intro h; cases h
  | sl i =>
    show (match s[i]? with
      | some (.o _ d) => .ok d
      | some (.b d) => .ok d
      | _ => .st : Rs PyData) ≠ .ex e
    split <;> (intro h; cases h)
theorem de_rd (h : DE X W e f) : DR X W e (rd f) := pe_mono h fun σ H Q ⟨c, σa, Z, q⟩ => ⟨c, σa, Z, (Go.bind q).mono fun av q v H' k r => by
  cases ev : gt σa av with
  | st => rw [ev] at q; exact q.elim
  | ex e => exact absurd ev (gt_noex _ _ _)
  | ok d => rw [ev] at q; exact q v H' k (r.br (Z.kp k) ev)⟩
theorem de_fz (h : DE X W e f) : DF X W e (fz f) := pe_mono h fun σ H Q ⟨c, σa, Z, q⟩ => ⟨c, σa, Z, (Go.bind q).mono fun av q v H' k r => by
  cases ev : gz av with
  | st => rw [ev] at q; exact q.elim
  | ex e => unfold gz at ev; split at ev <;> cases ev
  | ok d => rw [ev] at q; exact q v H' k (r.fz Z ev)⟩
/-- a value that rests -/
theorem de_c {d : PyData} {v : V} (h : PE X e (tC v)) (r : ∀ K P H, Fz K P H v d) : DE X W e (eC d) := pe_mono h fun σ H Q ⟨c, σa, Z, q⟩ => q v H (Kp.refl Z) (r _ _ _)
theorem de_int {i : Int} {j : Nat} : DE X W (.Constant (.int i) j pos) (eC (.int i)) := de_c pe_int fun _ _ _ => .int i
theorem de_bool {i : Bool} {j : Nat} : DE X W (.Constant (.bool i) j pos) (eC (.bool i)) := de_c pe_bl fun _ _ _ => .bl i
theorem de_none {j : Nat} : DE X W (.Constant .none j pos) (eC .none) := de_c pe_non fun _ _ _ => .non
theorem de_str {x : PySem.Str} {j : Nat} (h : (PyData.canLay0 (.str x) && decide (x.length ≤ 100000)) = true) : DE X W (.Constant (.str x) j pos) (eC (.str x)) := by
  obtain ⟨h1, h2⟩ := Bool.and_eq_true_iff.mp h
  exact de_c pe_str fun _ _ _ => .str x h1 (of_decide_eq_true h2)
theorem de_v (i : Nat) {x : PySem.Str} (hN : X.N[i]? = some x := by rfl) (hv : Vis X.env.scope x := by first | exact Or.inl rfl | exact Or.inr (Or.inl rfl) | exact Or.inr (Or.inr rfl)) (hd : (x == ("__debug__" : PySem.Str)) = false := by decide)
    (hcd : (x == ("__classdict__" : PySem.Str)) = false := by decide) : DE X W (.Name x pos) (eV i) := pe_mono (pe_var hN hv hd hcd) fun σ H Q ⟨c, σa, Z, q⟩ => by
  unfold eV at q
  split at q
  · rename_i d h
    obtain ⟨v, h1, h2⟩ := Z.val i d h
    exact ⟨v, h1, q v H (Kp.refl Z) h2⟩
  · rename_i d h
    obtain ⟨a, h1, _⟩ := Z.bor i d h
    exact ⟨_, h1, q _ H (Kp.refl Z) ⟨h1, d, .inl h⟩⟩
  · rename_i k d h
    obtain ⟨a, h1, _⟩ := Z.own i k d h
    exact ⟨_, h1, q _ H (Kp.refl Z) ⟨h1, d, .inr ⟨k, h⟩⟩⟩
  · exact q.elim
/-- an operator's rule gives what the function on data says -/
def B2 (K : Fr) (op : PyData → PyData → Option AV) (r : R2) : Prop := ∀ (c : RC) (σa : AE) (σ : L2.St) (H : Hp) (v w : V) (d e : PyData) (av : AV) (Q : VK), Rst K c H σa σ → Br K (Pr c σa σ) H v d → Br K (Pr c σa σ) H w e → op d e = some av →
  (∀ v' H', Kp c.tabs H H' → AvR K c σa σ H H' av v' → Q v' H') → r v w H Q
def U1 (K : Fr) (op : PyData → Option AV) (r : V → Hp → VK → Prop) : Prop := ∀ (c : RC) (σa : AE) (σ : L2.St) (H : Hp) (v : V) (d : PyData) (av : AV) (Q : VK), Rst K c H σa σ → Br K (Pr c σa σ) H v d → op d = some av →
  (∀ v' H', Kp c.tabs H H' → AvR K c σa σ H H' av v' → Q v' H') → r v H Q
theorem go_of {K : Fr} {c : RC} {σ : L2.St} {H : Hp} {α : Type} {o : Option α} {k : α → Prop} (h : Go K W c σ H (Rs.of o) k) : ∃ a, o = some a ∧ k a := by
  cases o with
  | none => exact h.elim
  | some a => exact ⟨a, rfl, h⟩
theorem tB2 {K : Fr} {op : PyData → PyData → Option AV} {r : R2} (hs : B2 K op r) {σ : L2.St} {H : Hp} {Q : VK} (h : tD K W (eB op ga gb) σ H Q) : tOp r (tRd K W ga) (tRd K W gb) σ H Q := by
  obtain ⟨c, σa, Z, q⟩ := h
  refine ⟨c, σa, Z, (Go.bind q).mono fun d q v H1 k1 r1 => ⟨c, σa, Z.kp k1, ((Go.bind q).later k1).mono fun e q w H2 k2 r2 => ?_⟩⟩
  obtain ⟨av, ev, q⟩ := go_of q
  exact hs c σa σ H2 v w d e av Q ((Z.kp k1).kp k2) (r1.keep0 k2.k) r2 ev fun v' H' k3 r3 => q v' H' ((k1.trans k2).trans k3) (r3.base (k1.trans k2).k)
theorem tU1 {K : Fr} {op : PyData → Option AV} {r : V → Hp → VK → Prop} (hs : U1 K op r) {σ : L2.St} {H : Hp} {Q : VK} (h : tD K W (eU op ga) σ H Q) : tRd K W ga σ H fun x H1 => r x H1 Q := by
  obtain ⟨c, σa, Z, q⟩ := h
  refine ⟨c, σa, Z, (Go.bind q).mono fun d q v H1 k1 r1 => ?_⟩
  obtain ⟨av, ev, q⟩ := go_of q
  exact hs c σa σ H1 v d av Q (Z.kp k1) r1 ev fun v' H' k3 r3 => q v' H' (k1.trans k3) (r3.base k1.k)
theorem de_op {o : Operator} {op : PyData → PyData → Option AV} {r : R2} (ho : OpR X (binaryOp o) r) (hs : B2 X.K op r) (ha : DR X W a ga) (hb : DR X W b gb) : DE X W (.BinOp a o b pos) (eB op ga gb) := pe_mono (pe_op ho ha hb) fun _ _ _ => tB2 hs
theorem de_un {o : UnaryOp} {op : PyData → Option AV} {r : V → Hp → VK → Prop} (ho : UnR X (unaryOp o) r) (hs : U1 X.K op r) (ha : DR X W a ga) : DE X W (.UnaryOp o a pos) (eU op ga) := pe_mono (pe_un ho ha) fun _ _ _ => tU1 hs
theorem de_cmp {o : CmpOp} {op : PyData → PyData → Option AV} {r : R2} (ho : OpR X (compareOp o) r) (hs : B2 X.K op r) (hm : behindInMarks o b = false) (ha : DR X W a ga) (hb : DR X W b gb) : DE X W (.Compare a [o] [b] pos) (eB op ga gb) := pe_mono (pe_cmpR ho ha hb hm) fun _ _ _ => tB2 hs
theorem B2.or {K : Fr} {op : PyData → PyData → Option AV} {r r' r2 : R2} (h : B2 K op r) (q : ∀ v w H Q, r v w H Q → r2 v w H Q) : B2 K op r2 := fun c σa σ H v w d e av Q z b1 b2 o k => q _ _ _ _ (h c σa σ H v w d e av Q z b1 b2 o k)
end
end DL
namespace DL
open PySem PySem.Spec PyProof.Rows L2
/-- at most this many items, signs -/
def lenOk (n : Nat) : Prop := n.log2 < 16
instance (n : Nat) : Decidable (lenOk n) := inferInstanceAs (Decidable (n.log2 < 16))
theorem log2_of {n k : Nat} (hk : 0 < k) (h : n < 2 ^ k) : n.log2 < k := by
  by_cases h0 : n = 0
  · subst h0; simpa using hk
  · exact (Nat.log2_lt h0).mpr h
theorem of_log2 {n k : Nat} (h : n.log2 < k) : n < 2 ^ k := by
  by_cases h0 : n = 0
  · subst h0; exact Nat.two_pow_pos k
  · exact (Nat.log2_lt h0).mp h
theorem lenOk.of {n : Nat} (h : n < 65536) : lenOk n := log2_of (by decide) (by simpa using h)
theorem lenOk.le {n : Nat} (h : lenOk n) : n ≤ 65535 := by have := of_log2 (n := n) (k := 16) h; omega
/-- not wide -/
def small (i : Int) : Prop := i.natAbs.log2 < 64
instance (i : Int) : Decidable (small i) := inferInstanceAs (Decidable (i.natAbs.log2 < 64))
theorem small.of {i : Int} (h : -(2 ^ 64) < i ∧ i < 2 ^ 64) : small i := log2_of (by decide) (by omega)
theorem small.lt {i : Int} (h : small i) : -(2 ^ 64) < i ∧ i < 2 ^ 64 := by have := of_log2 (n := i.natAbs) (k := 64) h; omega
@[simp] theorem lenOk_0 : lenOk 0 := lenOk.of (by decide)
theorem lenOk.line {n : Nat} (h : lenOk n) : n ≤ sizeLine := by rw [sizeLine_eq]; exact Nat.le_trans h.le (by decide)
theorem lenOk.lt {n : Nat} (h : lenOk n) : n < sizeLine := by rw [sizeLine_eq]; exact Nat.lt_of_le_of_lt h.le (by decide)
theorem le_line {n : Nat} (h : n ≤ 100000) : n ≤ sizeLine := by rw [sizeLine_eq]; exact Nat.le_trans h (by decide)
def fit : Nat → PyData → Bool
  | _, .none => true
  | _, .bool _ => true
  | _, .int _ => true
  | _, .str _ => true
  | n + 1, .list l => l.all (fit n)
  | n + 1, .tuple l => l.all (fit n)
  | _, _ => false
theorem depthAll_le {n : Nat} : ∀ {l : List PyData}, (∀ d ∈ l, d.depth ≤ n) → PyData.depthAll l ≤ n
  | [], _ => by simp [PyData.depthAll]
  | d :: l, h => by
    have h1 := h d List.mem_cons_self
    have h2 := depthAll_le (n := n) (l := l) fun e he => h e (List.mem_cons_of_mem _ he)
    simp only [PyData.depthAll]
    omega
theorem fit_depth : ∀ {n : Nat} {d : PyData}, fit n d = true → d.depth ≤ n
  | _, .none, _ => by simp [PyData.depth]
  | _, .bool _, _ => by simp [PyData.depth]
  | _, .int _, _ => by simp [PyData.depth]
  | _, .str _, _ => by simp [PyData.depth]
  | n + 1, .list l, h => by
    have h' : l.all (fit n) = true := h
    have := depthAll_le (n := n) (l := l) fun d hd => fit_depth (List.all_eq_true.mp h' d hd)
    simp only [PyData.depth]
    omega
  | n + 1, .tuple l, h => by
    have h' : l.all (fit n) = true := h
    have := depthAll_le (n := n) (l := l) fun d hd => fit_depth (List.all_eq_true.mp h' d hd)
    simp only [PyData.depth]
    omega
  | 0, .list _, h => by cases h
  | 0, .tuple _, h => by cases h
  | 0, .dict _, h => by cases h
  | _ + 1, .dict _, h => by cases h
section
variable {K : Fr} {P : Pd} {H : Hp}
mutual
theorem Fz.dp : ∀ {v : V} {d : PyData}, Fz K P H v d → Dp K H v d
  | _, _, .non => .non
  | _, _, .bl b => .bl b
  | _, _, .int i => .int i
  | _, _, .str x _ _ => .str x
  | _, _, .lst r _ a => .lst (.inl (.inl r)) (FzA.dp a)
  | _, _, .tup r a => .tup r (FzA.dp a)
theorem FzA.dp : ∀ {v : List V} {d : List PyData}, FzA K P H v d → DpAll K H v d
  | _, _, .nil => .nil
  | _, _, .cons a b => .cons (Fz.dp a) (FzA.dp b)
end
mutual
theorem Fz.lay : ∀ {v : V} {d : PyData}, Fz K P H v d → d.canLay0 = true
  | _, _, .non => by simp [PyData.canLay0]
  | _, _, .bl b => by simp [PyData.canLay0]
  | _, _, .int i => by simp [PyData.canLay0]
  | _, _, .str x h _ => h
  | _, _, .lst r _ a => by simp only [PyData.canLay0]; exact FzA.lay a
  | _, _, .tup r a => by simp only [PyData.canLay0]; exact FzA.lay a
theorem FzA.lay : ∀ {v : List V} {d : List PyData}, FzA K P H v d → PyData.canLayAll0 d = true
  | _, _, .nil => by simp [PyData.canLayAll0]
  | _, _, .cons a b => by simp only [PyData.canLayAll0, Fz.lay a, FzA.lay b, Bool.and_self]
end
theorem br_dp {v : V} {d : PyData} (h : Br K P H v d) (n : ∀ l, d ≠ .dict l) : Dp K H v d ∧ d.canLay0 = true := by
  cases d with
  | list l =>
    obtain ⟨a, xs, rfl, r, q⟩ := br_lst h
    exact ⟨.lst (.inl (.inl r)) q.dp, by simp only [PyData.canLay0]; exact q.lay⟩
  | dict l => exact absurd rfl (n l)
  | _ =>
    have h := br_fz h (fun _ z => nomatch z) (fun _ z => nomatch z)
    exact ⟨h.dp, h.lay⟩
theorem fit_nd {n : Nat} {d : PyData} (h : fit n d = true) : ∀ l, d ≠ .dict l := by
  rintro l rfl
  cases n <;> cases h
theorem br_shaped {v : V} {d : PyData} (h : Br K P H v d) (f : fit 60 d = true) : Dp K H v d ∧ SeqAt.shaped d = true := by
  obtain ⟨h1, h2⟩ := br_dp h (fit_nd f)
  refine ⟨h1, ?_⟩
  show (d.canLay0 && decide (d.depth ≤ 64)) = true
  rw [h2, decide_eq_true (Nat.le_trans (fit_depth f) (by decide))]; rfl
end
def addD : PyData → PyData → Option AV
  | .int i, .int j => some (dv (.int (i + j)))
  | .str x, .str y => if lenOk (x.length + y.length) then some (dv (.str (x ++ y))) else none
  | .tuple x, .tuple y => if lenOk (x.length + y.length) then some (dv (.tuple (x ++ y))) else none
  | .list x, .list y => if lenOk (x.length + y.length) then some (dn (.list (x ++ y))) else none
  | _, _ => none
def subD : PyData → PyData → Option AV
  | .int i, .int j => some (dv (.int (i - j)))
  | _, _ => none
def mulD : PyData → PyData → Option AV
  | .int i, .int j => if small i ∨ small j then some (dv (.int (i * j))) else none
  | .list x, .int k => if 0 ≤ k ∧ k < 100000 ∧ lenOk (x.length * k.toNat) then some (dn (.list (List.replicate k.toNat x).flatten)) else none
  | _, _ => none
def divD : PyData → PyData → Option AV
  | .int i, .int j => if 0 < j ∧ j.natAbs.log2 < 30 then some (dv (.int (i / j))) else none
  | _, _ => none
def modD : PyData → PyData → Option AV
  | .int i, .int j => if 0 < j then some (dv (.int (i % j))) else none
  | _, _ => none
def powD : PyData → PyData → Option AV
  | .int i, .int j => if 0 ≤ j ∧ j ≤ 1000000 ∧ i.natAbs < 2 ^ 64 then some (dv (.int (i ^ j.toNat))) else none
  | _, _ => none
def shlD : PyData → PyData → Option AV
  | .int i, .int j => if 0 ≤ j ∧ j ≤ 1000000 ∧ i.natAbs < 2 ^ 64 then some (dv (.int (i * 2 ^ j.toNat))) else none
  | _, _ => none
def shrD : PyData → PyData → Option AV
  | .int i, .int j => if 0 ≤ j then some (dv (.int (i / 2 ^ j.toNat))) else none
  | _, _ => none
def andD : PyData → PyData → Option AV
  | .int i, .int j => some (dv (.int (Builtin.bitAnd i j)))
  | _, _ => none
def orD : PyData → PyData → Option AV
  | .int i, .int j => some (dv (.int (Builtin.bitOr i j)))
  | _, _ => none
def negD : PyData → Option AV
  | .int i => some (dv (.int (-i)))
  | _ => none
def invD : PyData → Option AV
  | .int i => some (dv (.int (Builtin.bitNot i)))
  | _ => none
section
variable {X : Cx} {W : WX} {e a b : Expr} {f fa fb : AE → Rs AV} {g ga gb : AE → Rs PyData} {pos : Pos}
theorem ite_some {α : Type} {p : Prop} [Decidable p] {x y : α} (h : (if p then some x else none) = some y) : p ∧ x = y := by
  split at h
  · exact ⟨by assumption, Option.some.inj h⟩
  · cases h
/-- a result that rests -/
theorem fin_v {K : Fr} {c : RC} {σa : AE} {σ : L2.St} {H : Hp} {Q : VK} {d : PyData} {v : V} (Z : Rst K c H σa σ) (q : ∀ v' H', Kp c.tabs H H' → AvR K c σa σ H H' (dv d) v' → Q v' H') (h : Fz K (Pr c σa σ) H v d) : Q v H := q v H (Kp.refl Z) h
/-- a new tuple -/
theorem fin_tup {K : Fr} {c : RC} {σa : AE} {σ : L2.St} {H : Hp} {Q : VK} {ds : List PyData} {xs : List V} (Z : Rst K c H σa σ) (q : ∀ v' H', Kp c.tabs H H' → AvR K c σa σ H H' (dv (.tuple ds)) v' → Q v' H') (h : FzA K (Pr c σa σ) H xs ds) (p : Addr) (hp : H p = none) : Q (.ref p) (upd H p (.tup xs)) := by
  have k : Kp c.tabs H (upd H p (.tup xs)) := Kp.new Z.tab hp
  exact q _ _ k (show Fz _ _ _ _ _ from .tup (.inl (.inl upd_same)) (h.keep0 k.k))
/-- a new list -/
theorem fin_lst {K : Fr} {c : RC} {σa : AE} {σ : L2.St} {H : Hp} {Q : VK} {ds : List PyData} {xs : List V} (Z : Rst K c H σa σ) (q : ∀ v' H', Kp c.tabs H H' → AvR K c σa σ H H' (dn (.list ds)) v' → Q v' H') (h : FzA K (Pr c σa σ) H xs ds) (p : Addr) (hp : H p = none) : Q (.ref p) (upd H p (.lst xs)) := by
  have k : Kp c.tabs H (upd H p (.lst xs)) := Kp.new Z.tab hp
  refine q _ _ k ⟨p, rfl, hp, _, upd_same, .lst (h.mono (k.k.any) fun a z => ?_)⟩
  rcases z with z | rfl
  · exact .inl z
  · exact .inr hp
theorem strOk_append {x y : PySem.Str} (h1 : PyData.canLay0 (.str x) = true) (h2 : PyData.canLay0 (.str y) = true) : PyData.canLay0 (.str (x ++ y)) = true := by
  simp only [PyData.canLay0] at h1 h2 ⊢
  have e : (x ++ y).cps = x.cps ++ y.cps := rfl
  unfold PySem.PyData.strOk at h1 h2 ⊢
  rw [e, Array.all_append, h1, h2]; rfl
theorem len_append (x y : PySem.Str) : (x ++ y).length = x.length + y.length := by
  show (x.cps ++ y.cps).size = _
  rw [Array.size_append]; rfl
def rAddAll (K : Fr) : R2 := fun x y H Q => ((rI0 fun i j => .int (i + j)) x y H Q ∨ ∃ i j, x = .str i ∧ y = .str j ∧ i.length + j.length ≤ sizeLine ∧ Q (.str (i ++ j)) H) ∨ (rCatA K x y H Q ∨ rCat x y H Q)
theorem op_addAll : OpR X (binaryOp .Add) (rAddAll X.K) := (op_add.or op_add_str).or (op_catA.or op_cat)
theorem b2_add {K : Fr} : B2 K addD (rAddAll K) := by
  intro c σa σ H v w d e av Q Z h1 h2 ev q
  unfold addD at ev
  split at ev
  · cases ev
    cases br_int h1; cases br_int h2
    exact .inl (.inl ⟨_, _, rfl, rfl, fin_v Z q (.int _)⟩)
  · obtain ⟨hl, rfl⟩ := ite_some ev
    obtain ⟨rfl, o1, _⟩ := br_str h1
    obtain ⟨rfl, o2, _⟩ := br_str h2
    exact .inl (.inr ⟨_, _, rfl, rfl, lenOk.line hl, fin_v Z q (.str _ (strOk_append o1 o2) (by rw [len_append]; exact Nat.le_trans hl.le (by decide)))⟩)
  · obtain ⟨hl, rfl⟩ := ite_some ev
    obtain ⟨a, xs, rfl, s1, f1⟩ := br_tup h1
    obtain ⟨b, ys, rfl, s2, f2⟩ := br_tup h2
    have e1 := f1.length
    have e2 := f2.length
    refine .inr (.inl ⟨a, b, xs, ys, rfl, rfl, s1, s2, lenOk.line (by rw [e1, e2]; exact hl), fun z => ?_, fun _ z => ?_, fun _ _ p hp => fin_tup Z q (f1.append f2) p hp⟩)
    · subst z
      cases f1
      exact fin_v Z q (.tup s2 f2)
    · subst z
      cases f2
      rw [List.append_nil] at q
      exact fin_v Z q (.tup s1 f1)
  · obtain ⟨hl, rfl⟩ := ite_some ev
    obtain ⟨a, xs, rfl, s1, f1⟩ := br_lst h1
    obtain ⟨b, ys, rfl, s2, f2⟩ := br_lst h2
    have e1 := f1.length
    have e2 := f2.length
    exact .inr (.inr ⟨a, b, xs, ys, rfl, rfl, s1, s2, lenOk.line (by rw [e1, e2]; exact hl), fun p hp => fin_lst Z q (f1.append f2) p hp⟩)
  · cases ev
theorem de_add (ha : DR X W a ga) (hb : DR X W b gb) : DE X W (.BinOp a .Add b pos) (eB addD ga gb) := de_op op_addAll b2_add ha hb
theorem b2_int {K : Fr} {op : PyData → PyData → Option AV} {C : Int → Int → Prop} {g : Int → Int → Int} (h : ∀ d e av, op d e = some av → ∃ i j, d = .int i ∧ e = .int j ∧ C i j ∧ av = dv (.int (g i j))) : B2 K op (rI C fun i j => .int (g i j)) := by
  intro c σa σ H v w d e av Q Z h1 h2 ev q
  obtain ⟨i, j, rfl, rfl, hc, rfl⟩ := h d e av ev
  cases br_int h1; cases br_int h2
  exact ⟨i, j, rfl, rfl, hc, fin_v Z q (.int _)⟩
theorem b2_int0 {K : Fr} {op : PyData → PyData → Option AV} {g : Int → Int → Int} (h : ∀ d e av, op d e = some av → ∃ i j, d = .int i ∧ e = .int j ∧ av = dv (.int (g i j))) : B2 K op (rI0 fun i j => .int (g i j)) := by
  intro c σa σ H v w d e av Q Z h1 h2 ev q
  obtain ⟨i, j, rfl, rfl, rfl⟩ := h d e av ev
  cases br_int h1; cases br_int h2
  exact ⟨i, j, rfl, rfl, fin_v Z q (.int _)⟩
theorem de_sub (ha : DR X W a ga) (hb : DR X W b gb) : DE X W (.BinOp a .Sub b pos) (eB subD ga gb) := de_op op_sub (b2_int0 fun d e av h => by
  unfold subD at h; split at h <;> cases h; exact ⟨_, _, rfl, rfl, rfl⟩) ha hb
theorem de_div (ha : DR X W a ga) (hb : DR X W b gb) : DE X W (.BinOp a .FloorDiv b pos) (eB divD ga gb) := de_op op_fdiv (b2_int fun d e av h => by
  unfold divD at h
  split at h
  · obtain ⟨h1, rfl⟩ := ite_some h; exact ⟨_, _, rfl, rfl, ⟨h1.1, by have := of_log2 h1.2; omega⟩, rfl⟩
  · cases h) ha hb
theorem de_mod (ha : DR X W a ga) (hb : DR X W b gb) : DE X W (.BinOp a .Mod b pos) (eB modD ga gb) := de_op op_mod (b2_int fun d e av h => by
  unfold modD at h
  split at h
  · obtain ⟨h1, rfl⟩ := ite_some h; exact ⟨_, _, rfl, rfl, h1, rfl⟩
  · cases h) ha hb
theorem de_pow (ha : DR X W a ga) (hb : DR X W b gb) : DE X W (.BinOp a .Pow b pos) (eB powD ga gb) := de_op op_pow (b2_int fun d e av h => by
  unfold powD at h
  split at h
  · obtain ⟨h1, rfl⟩ := ite_some h; exact ⟨_, _, rfl, rfl, h1, rfl⟩
  · cases h) ha hb
theorem de_shl (ha : DR X W a ga) (hb : DR X W b gb) : DE X W (.BinOp a .LShift b pos) (eB shlD ga gb) := de_op op_shl (b2_int fun d e av h => by
  unfold shlD at h
  split at h
  · obtain ⟨h1, rfl⟩ := ite_some h; exact ⟨_, _, rfl, rfl, h1, rfl⟩
  · cases h) ha hb
theorem de_shr (ha : DR X W a ga) (hb : DR X W b gb) : DE X W (.BinOp a .RShift b pos) (eB shrD ga gb) := de_op op_shr (b2_int fun d e av h => by
  unfold shrD at h
  split at h
  · obtain ⟨h1, rfl⟩ := ite_some h; exact ⟨_, _, rfl, rfl, h1, rfl⟩
  · cases h) ha hb
theorem de_and2 (ha : DR X W a ga) (hb : DR X W b gb) : DE X W (.BinOp a .BitAnd b pos) (eB andD ga gb) := de_op op_and (b2_int0 fun d e av h => by
  unfold andD at h; split at h <;> cases h; exact ⟨_, _, rfl, rfl, rfl⟩) ha hb
theorem de_or2 (ha : DR X W a ga) (hb : DR X W b gb) : DE X W (.BinOp a .BitOr b pos) (eB orD ga gb) := de_op op_or (b2_int0 fun d e av h => by
  unfold orD at h; split at h <;> cases h; exact ⟨_, _, rfl, rfl, rfl⟩) ha hb
theorem FzA.flat {K : Fr} {P : Pd} {H : Hp} : ∀ {n : Nat} {xs : List V} {ds : List PyData}, FzA K P H xs ds → FzA K P H (List.replicate n xs).flatten (List.replicate n ds).flatten
  | 0, _, _, _ => .nil
  | n + 1, _, _, h => by
    rw [List.replicate_succ, List.replicate_succ, List.flatten_cons, List.flatten_cons]
    exact h.append (FzA.flat h)
def rMulAll : R2 := fun x y H Q => (rI CMul fun i j => .int (i * j)) x y H Q ∨ rRep x y H Q
theorem op_mulAll : OpR X (binaryOp .Mult) rMulAll := op_mul.or op_rep
theorem b2_mul {K : Fr} : B2 K mulD rMulAll := by
  intro c σa σ H v w d e av Q Z h1 h2 ev q
  unfold mulD at ev
  split at ev
  · obtain ⟨hc, rfl⟩ := ite_some ev
    cases br_int h1; cases br_int h2
    exact .inl ⟨_, _, rfl, rfl, hc.imp small.lt small.lt, fin_v Z q (.int _)⟩
  · obtain ⟨⟨k0, k1, hl⟩, rfl⟩ := ite_some ev
    obtain ⟨a, xs, rfl, s1, f1⟩ := br_lst h1
    cases br_int h2
    have e1 := f1.length
    exact .inr ⟨a, _, xs, rfl, rfl, s1, by omega, by omega, lenOk.line (by rw [e1]; exact hl), fun p hp => fin_lst Z q f1.flat p hp⟩
  · cases ev
theorem de_mul (ha : DR X W a ga) (hb : DR X W b gb) : DE X W (.BinOp a .Mult b pos) (eB mulD ga gb) := de_op op_mulAll b2_mul ha hb
theorem u1_int {K : Fr} {op : PyData → Option AV} {g : Int → Int} (h : ∀ d av, op d = some av → ∃ i, d = .int i ∧ av = dv (.int (g i))) : U1 K op (rU fun i => .int (g i)) := by
  intro c σa σ H v d av Q Z h1 ev q
  obtain ⟨i, rfl, rfl⟩ := h d av ev
  cases br_int h1
  exact ⟨i, rfl, fin_v Z q (.int _)⟩
theorem de_neg (ha : DR X W a ga) : DE X W (.UnaryOp .USub a pos) (eU negD ga) := de_un un_neg (u1_int fun d av h => by unfold negD at h; split at h <;> cases h; exact ⟨_, rfl, rfl⟩) ha
theorem de_inv (ha : DR X W a ga) : DE X W (.UnaryOp .Invert a pos) (eU invD ga) := de_un un_inv (u1_int fun d av h => by unfold invD at h; split at h <;> cases h; exact ⟨_, rfl, rfl⟩) ha
end
def eqD (d e : PyData) : Option AV := if fit 60 d = true ∧ fit 60 e = true then some (dv (.bool (PyData.eqv d e))) else none
def neD (d e : PyData) : Option AV := if fit 60 d = true ∧ fit 60 e = true then some (dv (.bool (!PyData.eqv d e))) else none
def strLt (x y : PySem.Str) : Bool := decide (x.cps.toList < y.cps.toList)
def ltD : PyData → PyData → Option AV
  | .int i, .int j => some (dv (.bool (decide (i < j))))
  | .str x, .str y => some (dv (.bool (strLt x y)))
  | _, _ => none
def leD : PyData → PyData → Option AV
  | .int i, .int j => some (dv (.bool (decide (i ≤ j))))
  | .str x, .str y => some (dv (.bool (!strLt y x)))
  | _, _ => none
def gtD (d e : PyData) : Option AV := ltD e d
def geD (d e : PyData) : Option AV := leD e d
def isNoneB : PyData → Bool
  | .none => true
  | _ => false
def isD (d e : PyData) : Option AV := match e with
  | .none => some (dv (.bool (isNoneB d)))
  | _ => none
def isntD (d e : PyData) : Option AV := match e with
  | .none => some (dv (.bool (!isNoneB d)))
  | _ => none
/-- x in xs -/
def inD (d e : PyData) : Option AV := match e with
  | .tuple l => if fit 60 d = true ∧ fit 60 (.tuple l) = true then some (dv (.bool (l.any fun z => PyData.eqv z d))) else none
  | .list l => if fit 60 d = true ∧ fit 60 (.list l) = true then some (dv (.bool (l.any fun z => PyData.eqv z d))) else none
  | _ => none
def ninD (d e : PyData) : Option AV := match e with
  | .tuple l => if fit 60 d = true ∧ fit 60 (.tuple l) = true then some (dv (.bool (!l.any fun z => PyData.eqv z d))) else none
  | .list l => if fit 60 d = true ∧ fit 60 (.list l) = true then some (dv (.bool (!l.any fun z => PyData.eqv z d))) else none
  | _ => none
section
variable {X : Cx} {W : WX} {e a b : Expr} {f fa fb : AE → Rs AV} {g ga gb : AE → Rs PyData} {pos : Pos}
theorem b2_eq {K : Fr} : B2 K eqD (rEqD K) := by
  intro c σa σ H v w d e av Q Z h1 h2 ev q
  obtain ⟨⟨f1, f2⟩, rfl⟩ := ite_some ev
  obtain ⟨d1, s1⟩ := br_shaped h1 f1
  obtain ⟨d2, s2⟩ := br_shaped h2 f2
  exact ⟨d, e, d1, d2, s1, s2, fin_v Z q (.bl _)⟩
theorem b2_ne {K : Fr} : B2 K neD (rNeD K) := by
  intro c σa σ H v w d e av Q Z h1 h2 ev q
  obtain ⟨⟨f1, f2⟩, rfl⟩ := ite_some ev
  obtain ⟨d1, s1⟩ := br_shaped h1 f1
  obtain ⟨d2, s2⟩ := br_shaped h2 f2
  exact ⟨d, e, d1, d2, s1, s2, fin_v Z q (.bl _)⟩
theorem de_eq {k : Nat} (hr : Room k X.A) (ha : DR X W a ga) (hb : DR X W b gb) : DE X W (.Compare a [.Eq] [b] pos) (eB eqD ga gb) := de_cmp (op_eqD hr.units) b2_eq (nobehind b (by decide) (by decide)) ha hb
theorem de_ne {k : Nat} (hr : Room k X.A) (ha : DR X W a ga) (hb : DR X W b gb) : DE X W (.Compare a [.NotEq] [b] pos) (eB neD ga gb) := de_cmp (op_neD hr.units) b2_ne (nobehind b (by decide) (by decide)) ha hb
def rLtAll (p : Int → Int → Bool) (ps : PySem.Str → PySem.Str → Bool) : R2 := fun x y H Q => (rI0 fun i j => .bl (p i j)) x y H Q ∨ ∃ i j, x = .str i ∧ y = .str j ∧ Q (.bl (ps i j)) H
theorem b2_ord {K : Fr} {op : PyData → PyData → Option AV} {p : Int → Int → Bool} {ps : PySem.Str → PySem.Str → Bool} (h : ∀ d e av, op d e = some av → (∃ i j, d = .int i ∧ e = .int j ∧ av = dv (.bool (p i j))) ∨ ∃ x y, d = .str x ∧ e = .str y ∧ av = dv (.bool (ps x y))) : B2 K op (rLtAll p ps) := by
  intro c σa σ H v w d e av Q Z h1 h2 ev q
  rcases h d e av ev with ⟨i, j, rfl, rfl, rfl⟩ | ⟨x, y, rfl, rfl, rfl⟩
  · cases br_int h1; cases br_int h2
    exact .inl ⟨i, j, rfl, rfl, fin_v Z q (.bl _)⟩
  · obtain ⟨rfl, _⟩ := br_str h1
    obtain ⟨rfl, _⟩ := br_str h2
    exact .inr ⟨x, y, rfl, rfl, fin_v Z q (.bl _)⟩
theorem lt_case {d e : PyData} {av : AV} (h : ltD d e = some av) : (∃ i j, d = .int i ∧ e = .int j ∧ av = dv (.bool (decide (i < j)))) ∨ ∃ x y, d = .str x ∧ e = .str y ∧ av = dv (.bool (strLt x y)) := by
  unfold ltD at h
  split at h <;> cases h
  · exact .inl ⟨_, _, rfl, rfl, rfl⟩
  · exact .inr ⟨_, _, rfl, rfl, rfl⟩
theorem le_case {d e : PyData} {av : AV} (h : leD d e = some av) : (∃ i j, d = .int i ∧ e = .int j ∧ av = dv (.bool (decide (i ≤ j)))) ∨ ∃ x y, d = .str x ∧ e = .str y ∧ av = dv (.bool (!strLt y x)) := by
  unfold leD at h
  split at h <;> cases h
  · exact .inl ⟨_, _, rfl, rfl, rfl⟩
  · exact .inr ⟨_, _, rfl, rfl, rfl⟩
theorem or_lt : OpR X (compareOp .Lt) (rLtAll (fun i j => decide (i < j)) strLt) := op_lt.or op_lt_str
theorem or_le : OpR X (compareOp .LtE) (rLtAll (fun i j => decide (i ≤ j)) fun x y => !strLt y x) := op_le.or op_le_str
theorem or_gt : OpR X (compareOp .Gt) (rLtAll (fun i j => decide (j < i)) fun x y => strLt y x) := op_gt.or op_gt_str
theorem or_ge : OpR X (compareOp .GtE) (rLtAll (fun i j => decide (j ≤ i)) fun x y => !strLt x y) := op_ge.or op_ge_str
theorem b2_lt {K : Fr} : B2 K ltD (rLtAll (fun i j => decide (i < j)) strLt) := b2_ord fun _ _ _ h => lt_case h
theorem b2_le {K : Fr} : B2 K leD (rLtAll (fun i j => decide (i ≤ j)) fun x y => !strLt y x) := b2_ord fun _ _ _ h => le_case h
theorem b2_gt {K : Fr} : B2 K gtD (rLtAll (fun i j => decide (j < i)) fun x y => strLt y x) := b2_ord fun _ _ _ h => by
  rcases lt_case h with ⟨i, j, h1, h2, h3⟩ | ⟨i, j, h1, h2, h3⟩
  · exact .inl ⟨j, i, h2, h1, h3⟩
  · exact .inr ⟨j, i, h2, h1, h3⟩
theorem b2_ge {K : Fr} : B2 K geD (rLtAll (fun i j => decide (j ≤ i)) fun x y => !strLt x y) := b2_ord fun _ _ _ h => by
  rcases le_case h with ⟨i, j, h1, h2, h3⟩ | ⟨i, j, h1, h2, h3⟩
  · exact .inl ⟨j, i, h2, h1, h3⟩
  · exact .inr ⟨j, i, h2, h1, h3⟩
theorem de_lt (ha : DR X W a ga) (hb : DR X W b gb) : DE X W (.Compare a [.Lt] [b] pos) (eB ltD ga gb) := de_cmp or_lt b2_lt (nobehind b (by decide) (by decide)) ha hb
theorem de_le (ha : DR X W a ga) (hb : DR X W b gb) : DE X W (.Compare a [.LtE] [b] pos) (eB leD ga gb) := de_cmp or_le b2_le (nobehind b (by decide) (by decide)) ha hb
theorem de_gt (ha : DR X W a ga) (hb : DR X W b gb) : DE X W (.Compare a [.Gt] [b] pos) (eB gtD ga gb) := de_cmp or_gt b2_gt (nobehind b (by decide) (by decide)) ha hb
theorem de_ge (ha : DR X W a ga) (hb : DR X W b gb) : DE X W (.Compare a [.GtE] [b] pos) (eB geD ga gb) := de_cmp or_ge b2_ge (nobehind b (by decide) (by decide)) ha hb
theorem br_isNone {K : Fr} {P : Pd} {H : Hp} {v : V} {d : PyData} (h : Br K P H v d) : decide (v = .non) = isNoneB d := by
  rcases h with h | ⟨a, rfl, h⟩
  · cases h <;> simp [isNoneB]
  · rcases cr_no h with ⟨l, rfl⟩ | ⟨l, rfl⟩ <;> simp [isNoneB]
theorem b2_is {K : Fr} : B2 K isD (fun x y H Q => y = .non ∧ Q (.bl (decide (x = .non))) H) := fun c σa σ H v w d e av Q Z h1 h2 ev q => by
  unfold isD at ev
  split at ev
  · cases ev
    refine ⟨br_none h2, ?_⟩
    rw [br_isNone h1]
    exact fin_v Z q (.bl _)
  · cases ev
theorem b2_isnt {K : Fr} : B2 K isntD (fun x y H Q => y = .non ∧ Q (.bl (!decide (x = .non))) H) := fun c σa σ H v w d e av Q Z h1 h2 ev q => by
  unfold isntD at ev
  split at ev
  · cases ev
    refine ⟨br_none h2, ?_⟩
    rw [br_isNone h1]
    exact fin_v Z q (.bl _)
  · cases ev
/-- in, not in over data: a list, a tuple -/
def rInA (K : Fr) (neg : Bool) : R2 := fun x y H Q => ∃ d l, Dp K H x d ∧ (Dp K H y (.list l) ∨ Dp K H y (.tuple l)) ∧ SeqAt.shaped d = true ∧ PyData.canLayAll0 l = true ∧ Q (.bl (if neg then !l.any fun z => PyData.eqv z d else l.any fun z => PyData.eqv z d)) H
theorem op_inA {k : Nat} (hr : Room k X.A) : OpR X (compareOp .In) (rInA X.K false) := by
  intro pins s σ H x y v u Q I rx ry h
  obtain ⟨d, l, hd, he, sd, sl, q⟩ := h
  have hu : X.A.units + 65 < cLine := by have := hr.un; omega
  obtain ⟨as, r1⟩ := Dp.reads I d x v hd rx
  rcases he with he | he
  · obtain ⟨bs, r2⟩ := Dp.reads I (.list l) y u he ry
    exact SeqAt.in_list_reads r2 r1 sl (SeqAt.canLay_of_shaped sd) (room_in_shaped sd hu) ⟨.bl _, H, I, rfl, q⟩
  · obtain ⟨bs, r2⟩ := Dp.reads I (.tuple l) y u he ry
    exact SeqAt.in_tuple_reads r2 r1 sl (SeqAt.canLay_of_shaped sd) (room_in_shaped sd hu) ⟨.bl _, H, I, rfl, q⟩
theorem op_ninA {k : Nat} (hr : Room k X.A) : OpR X (compareOp .NotIn) (rInA X.K true) := by
  intro pins s σ H x y v u Q I rx ry h
  obtain ⟨d, l, hd, he, sd, sl, q⟩ := h
  have hu : X.A.units + 65 < cLine := by have := hr.un; omega
  obtain ⟨as, r1⟩ := Dp.reads I d x v hd rx
  rcases he with he | he
  · obtain ⟨bs, r2⟩ := Dp.reads I (.list l) y u he ry
    exact SeqAt.notIn_list_reads r2 r1 sl (SeqAt.canLay_of_shaped sd) (room_in_shaped sd hu) ⟨.bl _, H, I, rfl, q⟩
  · obtain ⟨bs, r2⟩ := Dp.reads I (.tuple l) y u he ry
    exact SeqAt.notIn_tuple_reads r2 r1 sl (SeqAt.canLay_of_shaped sd) (room_in_shaped sd hu) ⟨.bl _, H, I, rfl, q⟩
theorem b2_in {K : Fr} : B2 K inD (rInA K false) := by
  intro c σa σ H v w d e av Q Z h1 h2 ev q
  unfold inD at ev
  split at ev
  · obtain ⟨⟨f1, f2⟩, rfl⟩ := ite_some ev
    obtain ⟨d1, s1⟩ := br_shaped h1 f1
    obtain ⟨d2, s2⟩ := br_dp h2 (fit_nd f2)
    exact ⟨d, _, d1, .inr d2, s1, by simpa only [PyData.canLay0] using s2, fin_v Z q (.bl _)⟩
  · obtain ⟨⟨f1, f2⟩, rfl⟩ := ite_some ev
    obtain ⟨d1, s1⟩ := br_shaped h1 f1
    obtain ⟨d2, s2⟩ := br_dp h2 (fit_nd f2)
    exact ⟨d, _, d1, .inl d2, s1, by simpa only [PyData.canLay0] using s2, fin_v Z q (.bl _)⟩
  · cases ev
theorem b2_nin {K : Fr} : B2 K ninD (rInA K true) := by
  intro c σa σ H v w d e av Q Z h1 h2 ev q
  unfold ninD at ev
  split at ev
  · obtain ⟨⟨f1, f2⟩, rfl⟩ := ite_some ev
    obtain ⟨d1, s1⟩ := br_shaped h1 f1
    obtain ⟨d2, s2⟩ := br_dp h2 (fit_nd f2)
    exact ⟨d, _, d1, .inr d2, s1, by simpa only [PyData.canLay0] using s2, fin_v Z q (.bl _)⟩
  · obtain ⟨⟨f1, f2⟩, rfl⟩ := ite_some ev
    obtain ⟨d1, s1⟩ := br_shaped h1 f1
    obtain ⟨d2, s2⟩ := br_dp h2 (fit_nd f2)
    exact ⟨d, _, d1, .inl d2, s1, by simpa only [PyData.canLay0] using s2, fin_v Z q (.bl _)⟩
  · cases ev
theorem de_in {k : Nat} (hr : Room k X.A) (hm : behindInMarks .In b = false) (ha : DR X W a ga) (hb : DR X W b gb) : DE X W (.Compare a [.In] [b] pos) (eB inD ga gb) := de_cmp (op_inA hr) b2_in hm ha hb
theorem de_nin {k : Nat} (hr : Room k X.A) (hm : behindInMarks .NotIn b = false) (ha : DR X W a ga) (hb : DR X W b gb) : DE X W (.Compare a [.NotIn] [b] pos) (eB ninD ga gb) := de_cmp (op_ninA hr) b2_nin hm ha hb
end
end DL
namespace DL
open PySem PySem.Spec PyProof.Rows L2
def truthD : PyData → Option Bool
  | .none => some false
  | .bool b => some b
  | .int i => some (i != 0)
  | .str x => some (x.length != 0)
  | .list l => some (!l.isEmpty)
  | .tuple l => some (!l.isEmpty)
  | .dict _ => none
def sT (ga : AE → Rs PyData) : AE → Rs Bool := fun s => (ga s).bind fun d => Rs.of (truthD d)
def sNot (t : AE → Rs Bool) : AE → Rs Bool := fun s => (t s).bind fun b => .ok (!b)
def sAnd (t u : AE → Rs Bool) : AE → Rs Bool := fun s => (t s).bind fun b => if b = true then u s else .ok false
def sOr (t u : AE → Rs Bool) : AE → Rs Bool := fun s => (t s).bind fun b => if b = true then .ok true else u s
def eIf (t : AE → Rs Bool) (fa fb : AE → Rs AV) : AE → Rs AV := fun s => (t s).bind fun b => if b = true then fa s else fb s
/-- and, or, not as values -/
def eAnd (fa fb : AE → Rs AV) : AE → Rs AV := fun s => (fa s).bind fun av => (gt s av).bind fun d => (Rs.of (truthD d)).bind fun b => if b = true then fb s else .ok av
def eOr (fa fb : AE → Rs AV) : AE → Rs AV := fun s => (fa s).bind fun av => (gt s av).bind fun d => (Rs.of (truthD d)).bind fun b => if b = true then .ok av else fb s
def eNot (ga : AE → Rs PyData) : AE → Rs AV := fun s => (ga s).bind fun d => (Rs.of (truthD d)).bind fun b => .ok (dv (.bool (!b)))
/-- a op b op' c -/
def eCh (op op' : PyData → PyData → Option AV) (ga gb gc : AE → Rs PyData) : AE → Rs AV := fun s => (ga s).bind fun d => (gb s).bind fun e => match op d e with
  | some (.d false (.bool k)) => if k = true then (gc s).bind fun x => Rs.of (op' e x) else .ok (dv (.bool false))
  | _ => .st
section
variable {X : Cx} {W : WX} {e a b c : Expr} {rest : List Expr} {f fa fb : AE → Rs AV} {g ga gb gc : AE → Rs PyData} {t u : AE → Rs Bool} {pos : Pos}
theorem str_len0 (x : PySem.Str) : ((x.length : Int) != 0) = (x.length != 0) := by
  generalize x.length = n
  cases n with
  | zero => rfl
  | succ n => rfl
theorem br_tru {K : Fr} {P : Pd} {H : Hp} {v : V} {d : PyData} {k : Bool} (h : Br K P H v d) (e : truthD d = some k) : TruV K v H k := by
  cases d with
  | none => cases br_none h; cases e; rfl
  | bool b => cases br_bool h; cases e; rfl
  | int i => cases br_int h; cases e; rfl
  | str x =>
    obtain ⟨rfl, _, hl⟩ := br_str h
    cases e
    exact ⟨le_line hl, (str_len0 x).symm⟩
  | list l =>
    obtain ⟨a, xs, rfl, r, q⟩ := br_lst h
    cases e
    refine .inl ⟨xs, .inl (.inl r), ?_⟩
    cases q <;> rfl
  | tuple l =>
    obtain ⟨a, xs, rfl, r, q⟩ := br_tup h
    cases e
    refine .inr (.inl ⟨xs, r, ?_⟩)
    cases q <;> rfl
  | dict l => cases e
theorem dt_of (ha : DR X W a ga) (he : ∀ whole, isTrue a X.env whole = (do let v ← whole; standAt a.pos; holding [v] (truthy v)) := by intro _; rfl) : DT X W a (sT ga) := pt_mono (pt_truth ha he) fun σ H Q ⟨c, σa, Z, q⟩ => ⟨c, σa, Z, (Go.bind q).mono fun d q v H1 k1 r1 => by
  obtain ⟨k, ek, q⟩ := go_of q
  exact ⟨k, br_tru r1 ek, q H1 k1⟩⟩
theorem dt_not (ha : DT X W a t) : DT X W (.UnaryOp .Not a pos) (sNot t) := pt_mono (pt_not ha) fun σ H Q ⟨c, σa, Z, q⟩ => ⟨c, σa, Z, (Go.bind q).mono fun b q H1 k1 => q H1 k1⟩
theorem dw_and1 (ha : DT X W a t) : DW X W (.BoolOp .And [a] pos) t := pw_and1 ha
theorem dw_or1 (ha : DT X W a t) : DW X W (.BoolOp .Or [a] pos) t := pw_or1 ha
theorem dw_and (ha : DT X W a t) (hb : DW X W (.BoolOp .And (b :: rest) pos) u) : DW X W (.BoolOp .And (a :: b :: rest) pos) (sAnd t u) := pw_mono (pw_and ha hb) fun σ H Q ⟨c, σa, Z, q⟩ => ⟨c, σa, Z, (Go.bind q).mono fun b q H1 k1 => by
  cases b with
  | true => exact ⟨c, σa, Z.kp k1, (q.later k1).mono fun b q H2 k2 => q H2 (k1.trans k2)⟩
  | false => exact q H1 k1⟩
theorem dw_or (ha : DT X W a t) (hb : DW X W (.BoolOp .Or (b :: rest) pos) u) : DW X W (.BoolOp .Or (a :: b :: rest) pos) (sOr t u) := pw_mono (pw_or ha hb) fun σ H Q ⟨c, σa, Z, q⟩ => ⟨c, σa, Z, (Go.bind q).mono fun b q H1 k1 => by
  cases b with
  | true => exact q H1 k1
  | false => exact ⟨c, σa, Z.kp k1, (q.later k1).mono fun b q H2 k2 => q H2 (k1.trans k2)⟩⟩
theorem dt_w (h : DW X W e t) : DT X W e t := PW.pt h
theorem de_if (hc : DT X W c t) (ha : DE X W a fa) (hb : DE X W b fb) : DE X W (.IfExp c a b pos) (eIf t fa fb) := pe_mono (pe_ifExp hc ha hb) fun σ H Q ⟨c, σa, Z, q⟩ => ⟨c, σa, Z, (Go.bind q).mono fun b q H1 k1 => by
  cases b with
  | true => exact ⟨c, σa, Z.kp k1, (q.later k1).mono fun av q v H2 k2 r2 => q v H2 (k1.trans k2) (r2.base k1.k)⟩
  | false => exact ⟨c, σa, Z.kp k1, (q.later k1).mono fun av q v H2 k2 r2 => q v H2 (k1.trans k2) (r2.base k1.k)⟩⟩
theorem de_one {op : BoolOp} (h : DE X W a f) : DE X W (.BoolOp op [a] pos) f := pe_one h
theorem go_gt {K : Fr} {c : RC} {σ : L2.St} {H : Hp} {σa : AE} {av : AV} {k : PyData → Prop} (h : Go K W c σ H (gt σa av) k) : ∃ d, gt σa av = .ok d ∧ k d := by
  cases e : gt σa av with
  | st => rw [e] at h; exact h.elim
  | ex x => exact absurd e (gt_noex _ _ _)
  | ok d => rw [e] at h; exact ⟨d, rfl, h⟩
theorem de_and (ha : DE X W a fa) (hb : DE X W (.BoolOp .And (b :: rest) pos) fb) : DE X W (.BoolOp .And (a :: b :: rest) pos) (eAnd fa fb) := pe_mono (pe_andT ha hb) fun σ H Q ⟨c, σa, Z, q⟩ => ⟨c, σa, Z, (Go.bind q).mono fun av q v H1 k1 r1 => by
  obtain ⟨d, ed, q⟩ := go_gt (Go.bind q)
  obtain ⟨k, ek, q⟩ := go_of (Go.bind q)
  refine ⟨k, br_tru (r1.br (Z.kp k1) ed) ek, ?_⟩
  cases k with
  | true => exact ⟨c, σa, Z.kp k1, (q.later k1).mono fun av q v H2 k2 r2 => q v H2 (k1.trans k2) (r2.base k1.k)⟩
  | false => exact q v H1 k1 r1⟩
theorem de_or (ha : DE X W a fa) (hb : DE X W (.BoolOp .Or (b :: rest) pos) fb) : DE X W (.BoolOp .Or (a :: b :: rest) pos) (eOr fa fb) := pe_mono (pe_orT ha hb) fun σ H Q ⟨c, σa, Z, q⟩ => ⟨c, σa, Z, (Go.bind q).mono fun av q v H1 k1 r1 => by
  obtain ⟨d, ed, q⟩ := go_gt (Go.bind q)
  obtain ⟨k, ek, q⟩ := go_of (Go.bind q)
  refine ⟨k, br_tru (r1.br (Z.kp k1) ed) ek, ?_⟩
  cases k with
  | false => exact ⟨c, σa, Z.kp k1, (q.later k1).mono fun av q v H2 k2 r2 => q v H2 (k1.trans k2) (r2.base k1.k)⟩
  | true => exact q v H1 k1 r1⟩
theorem de_not (ha : DR X W a ga) : DE X W (.UnaryOp .Not a pos) (eNot ga) := pe_mono (pe_notT ha) fun σ H Q ⟨c, σa, Z, q⟩ => ⟨c, σa, Z, (Go.bind q).mono fun d q v H1 k1 r1 => by
  obtain ⟨k, ek, q⟩ := go_of (Go.bind q)
  exact ⟨k, br_tru r1 ek, q _ H1 k1 (show Fz _ _ _ _ _ from .bl _)⟩⟩
theorem tChn {K : Fr} {op op' : PyData → PyData → Option AV} {r r' : R2} (h1 : B2 K op r) (h2 : B2 K op' r') {σ : L2.St} {H : Hp} {Q : VK} (h : tD K W (eCh op op' ga gb gc) σ H Q) : tChain r r' (tRd K W ga) (tRd K W gb) (tRd K W gc) σ H Q := by
  obtain ⟨c, σa, Z, q⟩ := h
  refine ⟨c, σa, Z, (Go.bind q).mono fun d q v H1 k1 r1 => ⟨c, σa, Z.kp k1, ((Go.bind q).later k1).mono fun e q w H2 k2 r2 => ?_⟩⟩
  have Z2 := (Z.kp k1).kp k2
  have k12 := k1.trans k2
  split at q
  · rename_i k ek
    refine h1 c σa σ H2 v w d e _ _ Z2 (r1.keep0 k2.k) r2 ek fun v' H3 k3 r3 => ?_
    have r3' : Fz K (Pr c σa σ) H3 v' (.bool k) := r3
    cases r3'
    refine ⟨k, rfl, ?_⟩
    cases k with
    | true =>
      rw [if_pos rfl] at q ⊢
      refine ⟨c, σa, Z2.kp k3, ((Go.bind q).later (k12.trans k3)).mono fun x q y H4 k4 r4 => ?_⟩
      obtain ⟨av, ev, q⟩ := go_of q
      exact h2 c σa σ H4 w y e x av Q ((Z2.kp k3).kp k4) ((r2.keep0 k3.k).keep0 k4.k) r4 ev fun v' H' k5 r5 => q v' H' (((k12.trans k3).trans k4).trans k5) (r5.base ((k12.trans k3).trans k4).k)
    | false =>
      rw [if_neg Bool.false_ne_true] at q ⊢
      exact q _ H3 (k12.trans k3) (show Fz _ _ _ _ _ from .bl _)
  · exact q.elim
end
abbrev AL := AE → Rs (List PyData)
def aNil : AL := fun _ => .ok []
def aCons (ga : AE → Rs PyData) (gs : AL) : AL := fun s => (ga s).bind fun d => (gs s).bind fun ds => .ok (d :: ds)
/-- the values may be read -/
inductive BrA (K : Fr) (P : Pd) (H : Hp) : List V → List PyData → Prop
  | nil : BrA K P H [] []
  | cons {v : V} {vs : List V} {d : PyData} {ds : List PyData} : Br K P H v d → BrA K P H vs ds → BrA K P H (v :: vs) (d :: ds)
theorem BrA.keep0 {K : Fr} {P : Pd} {H H' : Hp} (k : Keep P0 H H') : ∀ {vs : List V} {ds : List PyData}, BrA K P H vs ds → BrA K P H' vs ds
  | _, _, .nil => .nil
  | _, _, .cons a b => .cons (a.keep0 k) (BrA.keep0 k b)
def tAz (K : Fr) (W : WX) (f : AL) : TA := fun σ H Q => ∃ c σa, Rst K c H σa σ ∧ Go K W c σ H (f σa) fun ds => ∀ vs H', Kp c.tabs H H' → FzA K (Pr c σa σ) H' vs ds → Q vs H'
def tAr (K : Fr) (W : WX) (f : AL) : TA := fun σ H Q => ∃ c σa, Rst K c H σa σ ∧ Go K W c σ H (f σa) fun ds => ∀ vs H', Kp c.tabs H H' → BrA K (Pr c σa σ) H' vs ds → Q vs H'
abbrev DAz (X : Cx) (W : WX) (es : List Expr) (f : AL) : Prop := PA X es (tAz X.K W f)
abbrev DAr (X : Cx) (W : WX) (es : List Expr) (f : AL) : Prop := PA X es (tAr X.K W f)
def eTup (gs : AL) : AE → Rs AV := fun s => (gs s).bind fun ds => Rs.of (if lenOk ds.length then some (dv (.tuple ds)) else none)
def eLst (gs : AL) : AE → Rs AV := fun s => (gs s).bind fun ds => Rs.of (if lenOk ds.length then some (dn (.list ds)) else none)
section
variable {X : Cx} {W : WX} {e a b : Expr} {es : List Expr} {f fa fb : AE → Rs AV} {g ga gb : AE → Rs PyData} {gs : AL} {pos : Pos}
theorem daz_nil : DAz X W [] aNil := pa_mono pa_nil fun σ H Q ⟨c, σa, Z, q⟩ => q [] H (Kp.refl Z) .nil
theorem dar_nil : DAr X W [] aNil := pa_mono pa_nil fun σ H Q ⟨c, σa, Z, q⟩ => q [] H (Kp.refl Z) .nil
theorem daz_cons (ha : DF X W e ga) (hr : DAz X W es gs) (hs : starEach (e :: es) X.env = (false, eval e X.env) :: starEach es X.env := by rfl) : DAz X W (e :: es) (aCons ga gs) := pa_mono (pa_cons ha hr hs) fun σ H Q ⟨c, σa, Z, q⟩ =>
  ⟨c, σa, Z, (Go.bind q).mono fun d q v H1 k1 r1 => ⟨c, σa, Z.kp k1, ((Go.bind q).later k1).mono fun ds q vs H2 k2 r2 => q _ H2 (k1.trans k2) (.cons (r1.keep0 k2.k) r2)⟩⟩
theorem dar_cons (ha : DR X W e ga) (hr : DAr X W es gs) (hs : starEach (e :: es) X.env = (false, eval e X.env) :: starEach es X.env := by rfl) : DAr X W (e :: es) (aCons ga gs) := pa_mono (pa_cons ha hr hs) fun σ H Q ⟨c, σa, Z, q⟩ =>
  ⟨c, σa, Z, (Go.bind q).mono fun d q v H1 k1 r1 => ⟨c, σa, Z.kp k1, ((Go.bind q).later k1).mono fun ds q vs H2 k2 r2 => q _ H2 (k1.trans k2) (.cons (r1.keep0 k2.k) r2)⟩⟩
theorem de_tup {k : Nat} (h : DAz X W es gs) : DE X W (.Tuple es k pos) (eTup gs) := pe_mono (pe_tup h) fun σ H Q ⟨c, σa, Z, q⟩ => ⟨c, σa, Z, (Go.bind q).mono fun ds q vs H1 k1 r1 => by
  obtain ⟨av, ev, q⟩ := go_of q
  obtain ⟨hl, rfl⟩ := ite_some ev
  exact ⟨lenOk.line (by rw [r1.length]; exact hl), fin_tup (Z.kp k1) (fun v' H' k3 r3 => q v' H' (k1.trans k3) (r3.base k1.k)) r1⟩⟩
theorem de_lst (h : DAz X W es gs) : DE X W (.List es pos) (eLst gs) := pe_mono (pe_lst h) fun σ H Q ⟨c, σa, Z, q⟩ => ⟨c, σa, Z, (Go.bind q).mono fun ds q vs H1 k1 r1 => by
  obtain ⟨av, ev, q⟩ := go_of q
  obtain ⟨hl, rfl⟩ := ite_some ev
  exact ⟨lenOk.line (by rw [r1.length]; exact hl), fin_lst (Z.kp k1) (fun v' H' k3 r3 => q v' H' (k1.trans k3) (r3.base k1.k)) r1⟩⟩
end
def ixD : PyData → PyData → Option AV
  | .list l, .int i => (atI l i).map dv
  | .tuple l, .int i => (atI l i).map dv
  | .str x, .int i => (atI x.cps.toList i).map fun c => dv (.str ⟨#[c]⟩)
  | _, _ => none
theorem atI_fz {K : Fr} {P : Pd} {H : Hp} {vs : List V} {ds : List PyData} {i : Int} {d : PyData} (h : FzA K P H vs ds) (e : atI ds i = some d) : ∃ v, atI vs i = some v ∧ Fz K P H v d := by
  unfold atI at e ⊢
  rw [h.length]
  cases q : ixN ds.length i with
  | none => rw [q] at e; cases e
  | some j =>
    rw [q] at e
    exact h.get (show ds[j]? = some d from e)
section
variable {X : Cx} {W : WX} {e a b : Expr} {es : List Expr} {f fa fb : AE → Rs AV} {g ga gb : AE → Rs PyData} {gs : AL} {pos p2 : Pos}
theorem str_one {x : PySem.Str} {c : Nat} (h : PyData.canLay0 (.str x) = true) (hc : c ∈ x.cps.toList) : PyData.canLay0 (.str ⟨#[c]⟩) = true := by
  simp only [PyData.canLay0, PySem.PyData.strOk] at h ⊢
  have h2 := Array.all_eq_true_iff_forall_mem.mp h c (by simpa using hc)
  simp only [List.size_toArray, List.length_cons, List.length_nil, Array.all_push, Array.all_empty] 
  simpa using h2
theorem b2_ix {K : Fr} : B2 K ixD (rIx K) := by
  intro c σa σ H v w d e av Q Z h1 h2 ev q
  unfold ixD at ev
  split at ev
  · rename_i l i
    cases hd : atI l i with
    | none => rw [hd] at ev; cases ev
    | some d =>
      rw [hd] at ev; cases ev
      obtain ⟨a, xs, rfl, s1, f1⟩ := br_lst h1
      cases br_int h2
      obtain ⟨v, hv, fv⟩ := atI_fz f1 hd
      exact .inl ⟨a, xs, i, v, rfl, rfl, .inl (.inl s1), hv, fin_v Z q fv⟩
  · rename_i l i
    cases hd : atI l i with
    | none => rw [hd] at ev; cases ev
    | some d =>
      rw [hd] at ev; cases ev
      obtain ⟨a, xs, rfl, s1, f1⟩ := br_tup h1
      cases br_int h2
      obtain ⟨v, hv, fv⟩ := atI_fz f1 hd
      exact .inr (.inl ⟨a, xs, i, v, rfl, rfl, s1, hv, fin_v Z q fv⟩)
  · rename_i x i
    cases hd : atI x.cps.toList i with
    | none => rw [hd] at ev; cases ev
    | some d =>
      rw [hd] at ev; cases ev
      obtain ⟨rfl, o1, hl⟩ := br_str h1
      cases br_int h2
      obtain ⟨j, _, hj, _⟩ := atI_get hd
      exact .inr (.inr ⟨x, i, d, rfl, rfl, le_line hl, hd, fin_v Z q (.str _ (str_one o1 (List.mem_of_getElem? hj)) (by show 1 ≤ 100000; decide))⟩)
  · cases ev
theorem de_ix (ha : DR X W a ga) (hb : DR X W b gb) (hs : PlainIx b := by exact fun _ _ => rfl) : DE X W (.Subscript a b pos) (eB ixD ga gb) := pe_mono (pe_ix ix_seq ha hb hs) fun _ _ _ => tB2 b2_ix
/-- a part of a slice -/
abbrev SP := AE → Rs (Option Int)
def pNone : SP := fun _ => .ok none
def pSome (ga : AE → Rs PyData) : SP := fun s => (ga s).bind fun d => match d with
  | .int i => .ok (some i)
  | _ => .st
def tP (K : Fr) (W : WX) (f : SP) : TO := fun σ H Q => ∃ c σa, Rst K c H σa σ ∧ Go K W c σ H (f σa) fun o => ∀ H', Kp c.tabs H H' → Q o H'
abbrev DP (X : Cx) (W : WX) (e : Option Expr) (f : SP) : Prop := PO X e (tP X.K W f)
theorem po_mono {o : Option Expr} {t t' : TO} (h : PO X o t) (q : ∀ σ H Q, t' σ H Q → t σ H Q) : PO X o t' := ⟨fun pins s σ H Q I z => h.run pins s σ H Q I (q _ _ _ z)⟩
theorem dp_none : DP X W none pNone := po_mono po_none fun σ H Q ⟨c, σa, Z, q⟩ => q H (Kp.refl Z)
theorem dp_some (h : DR X W e ga) : DP X W (some e) (pSome ga) := po_mono (po_some h) fun σ H Q ⟨c, σa, Z, q⟩ => ⟨c, σa, Z, (Go.bind q).mono fun d q v H1 k1 r1 => by
  split at q
  · cases br_int r1; exact ⟨_, rfl, q H1 k1⟩
  · exact q.elim⟩
def cutL (l : List PyData) (lo hi : Option Int) : List PyData := (l.drop (HT.sIx l.length 0 lo)).take (HT.sIx l.length l.length hi - HT.sIx l.length 0 lo)
def cutD (lo hi : Option Int) : PyData → Option AV
  | .list l => some (dn (.list (cutL l lo hi)))
  | .tuple l => some (dv (.tuple (cutL l lo hi)))
  | .str x => some (dv (.str (cutS x lo hi)))
  | _ => none
def eCut (ga : AE → Rs PyData) (lo hi : SP) : AE → Rs AV := fun s => (ga s).bind fun d => (lo s).bind fun l => (hi s).bind fun h => Rs.of (cutD l h d)
theorem cut_fz {K : Fr} {P : Pd} {H : Hp} {vs : List V} {ds : List PyData} {lo hi : Option Int} (h : FzA K P H vs ds) : FzA K P H (cutV vs lo hi) (cutL ds lo hi) := by
  unfold cutV cutL
  rw [h.length]
  exact (h.drop _).take _
theorem cut_whole {K : Fr} {P : Pd} {H : Hp} {vs : List V} {ds : List PyData} {lo hi : Option Int} (h : FzA K P H vs ds) (e : HT.sIx vs.length 0 lo = 0 ∧ HT.sIx vs.length vs.length hi = vs.length) : cutL ds lo hi = ds := by
  unfold cutL
  rw [← h.length, e.1, e.2, List.drop_zero, Nat.sub_zero, h.length, List.take_length]
theorem cutS_ok {x : PySem.Str} {lo hi : Option Int} (h : PyData.canLay0 (.str x) = true) (hl : x.length ≤ 100000) : PyData.canLay0 (.str (cutS x lo hi)) = true ∧ (cutS x lo hi).length ≤ 100000 := by
  refine ⟨?_, Nat.le_trans (cutS_length x lo hi) hl⟩
  simp only [PyData.canLay0, PySem.PyData.strOk] at h ⊢
  rw [Array.all_eq_true_iff_forall_mem] at h ⊢
  intro c hc
  unfold cutS at hc
  have : c ∈ x.cps.toList := List.mem_of_mem_drop (List.mem_of_mem_take (by simpa using hc))
  exact h c (by simpa using this)
theorem de_cut {lo hi : Option Expr} {gl gh : SP} (ha : DR X W a ga) (hl : DP X W lo gl) (hh : DP X W hi gh) : DE X W (.Subscript a (.Slice lo hi none p2) pos) (eCut ga gl gh) := pe_mono (pe_slice (sl_list.or (sl_tupA.or sl_str)) ha hl hh) fun σ H Q ⟨c, σa, Z, q⟩ =>
  ⟨c, σa, Z, (Go.bind q).mono fun d q v H1 k1 r1 => ⟨c, σa, Z.kp k1, ((Go.bind q).later k1).mono fun l q H2 k2 => ⟨c, σa, (Z.kp k1).kp k2, ((Go.bind q).later (k1.trans k2)).mono fun u q H3 k3 => by
  obtain ⟨av, ev, q⟩ := go_of q
  have kk := (k1.trans k2).trans k3
  have Z3 := Z.kp kk
  have r3 := (r1.keep0 k2.k).keep0 k3.k
  have q' : ∀ v' H', Kp c.tabs H3 H' → AvR X.K c σa σ H3 H' av v' → Q v' H' := fun v' H' k4 r4 => q v' H' (kk.trans k4) (r4.base kk.k)
  unfold cutD at ev
  split at ev
  · cases ev
    obtain ⟨a, xs, rfl, s1, f1⟩ := br_lst r3
    exact .inl ⟨a, xs, rfl, .inl (.inl s1), fin_lst Z3 q' (cut_fz f1)⟩
  · cases ev
    obtain ⟨a, xs, rfl, s1, f1⟩ := br_tup r3
    refine .inr (.inl ⟨a, xs, rfl, s1, fun z => ?_, fun _ => fin_tup Z3 q' (cut_fz f1)⟩)
    rw [cut_whole f1 z] at q'
    exact fin_v Z3 q' (.tup s1 f1)
  · cases ev
    obtain ⟨rfl, o1, hl⟩ := br_str r3
    obtain ⟨o2, l2⟩ := cutS_ok (lo := l) (hi := u) o1 hl
    exact .inr (.inr ⟨_, rfl, le_line hl, fin_v Z3 q' (.str _ o2 l2)⟩)
  · cases ev⟩⟩⟩
end
def C1 (K : Fr) (op : List PyData → Option AV) (r : List V → Hp → VK → Prop) : Prop := ∀ (c : RC) (σa : AE) (σ : L2.St) (H : Hp) (vs : List V) (ds : List PyData) (av : AV) (Q : VK), Rst K c H σa σ → BrA K (Pr c σa σ) H vs ds → op ds = some av →
  (∀ v' H', Kp c.tabs H H' → AvR K c σa σ H H' av v' → Q v' H') → r vs H Q
def eCall (op : List PyData → Option AV) (gs : AL) : AE → Rs AV := fun s => (gs s).bind fun ds => Rs.of (op ds)
section
variable {X : Cx} {W : WX} {e a b : Expr} {es : List Expr} {f fa fb : AE → Rs AV} {g ga gb : AE → Rs PyData} {gs : AL} {pos p : Pos} {x : PySem.Str}
theorem tC1 {K : Fr} {op : List PyData → Option AV} {r : List V → Hp → VK → Prop} (hs : C1 K op r) {σ : L2.St} {H : Hp} {Q : VK} (h : tD K W (eCall op gs) σ H Q) : tCB r (tAr K W gs) σ H Q := by
  obtain ⟨c, σa, Z, q⟩ := h
  refine ⟨c, σa, Z, (Go.bind q).mono fun ds q vs H1 k1 r1 => ?_⟩
  obtain ⟨av, ev, q⟩ := go_of q
  exact hs c σa σ H1 vs ds av Q (Z.kp k1) r1 ev fun v' H' k3 r3 => q v' H' (k1.trans k3) (r3.base k1.k)
theorem de_callB {id : String} {op : List PyData → Option AV} {r : List V → Hp → VK → Prop} (hc : CallR X (.builtin id) r) (hs : C1 X.K op r) (hg : Gl X x) (hm : X.mg x = none) (hv : bootBuiltins x = some (.builtin id)) (ha : DAr X W (e :: es) gs) (hn : x ≠ "__name__" := by decide) (hdb : (x == ("__debug__" : PySem.Str)) = false := by decide)
    (he : starEach (e :: es) X.env = (false, eval e X.env) :: starEach es X.env := by rfl) (hpl : (backTo pos (starEach es X.env)).any (·.1) = false := by rfl) : DE X W (.Call (.Name x p) (e :: es) [] pos) (eCall op gs) := pe_mono (pe_callB hc hg hm hv ha hn hdb he hpl) fun _ _ _ => tC1 hs
theorem de_callTy {T : String} {op : List PyData → Option AV} {r : List V → Hp → VK → Prop} (hc : CallR X (.type T) r) (hs : C1 X.K op r) (hg : Gl X x) (hm : X.mg x = none) (hv : bootBuiltins x = some (.type T)) (ha : DAr X W (e :: es) gs) (hn : x ≠ "__name__" := by decide) (hdb : (x == ("__debug__" : PySem.Str)) = false := by decide)
    (he : starEach (e :: es) X.env = (false, eval e X.env) :: starEach es X.env := by rfl) (hpl : (backTo pos (starEach es X.env)).any (·.1) = false := by rfl) : DE X W (.Call (.Name x p) (e :: es) [] pos) (eCall op gs) := pe_mono (pe_callTy hc hg hm hv ha hn hdb he hpl) fun _ _ _ => tC1 hs
def lenD : List PyData → Option AV
  | [.list l] => some (dv (.int l.length))
  | [.tuple l] => some (dv (.int l.length))
  | [.str x] => some (dv (.int x.length))
  | _ => none
theorem brA1 {K : Fr} {P : Pd} {H : Hp} {vs : List V} {d : PyData} (h : BrA K P H vs [d]) : ∃ v, vs = [v] ∧ Br K P H v d := by
  cases h with
  | cons a b => cases b; exact ⟨_, rfl, a⟩
theorem brA2 {K : Fr} {P : Pd} {H : Hp} {vs : List V} {d e : PyData} (h : BrA K P H vs [d, e]) : ∃ v w, vs = [v, w] ∧ Br K P H v d ∧ Br K P H w e := by
  cases h with
  | cons a b =>
    cases b with
    | cons b c => cases c; exact ⟨_, _, rfl, a, b⟩
theorem de_len (hg : Gl X "len") (hm : X.mg "len" = none) (ha : DAr X W [e] gs) (he : starEach [e] X.env = (false, eval e X.env) :: starEach [] X.env := by rfl) : DE X W (.Call (.Name "len" p) [e] [] pos) (eCall lenD gs) := de_callB call_len (fun c σa σ H vs ds av Q Z h ev q => by
  unfold lenD at ev
  split at ev
  · cases ev
    obtain ⟨v, rfl, hb⟩ := brA1 h
    obtain ⟨a, xs, rfl, r, f⟩ := br_lst hb
    exact ⟨_, _, rfl, .inl ⟨xs, .inl (.inl r), rfl⟩, by rw [f.length]; exact fin_v Z q (.int _)⟩
  · cases ev
    obtain ⟨v, rfl, hb⟩ := brA1 h
    obtain ⟨a, xs, rfl, r, f⟩ := br_tup hb
    exact ⟨_, _, rfl, .inr ⟨xs, r, rfl⟩, by rw [f.length]; exact fin_v Z q (.int _)⟩
  · cases ev
    obtain ⟨v, rfl, hb⟩ := brA1 h
    obtain ⟨rfl, _, hl⟩ := br_str hb
    exact ⟨_, _, rfl, ⟨le_line hl, rfl⟩, fin_v Z q (.int _)⟩
  · cases ev) hg hm boot_len ha (he := he)
end
end DL
namespace DL
open PySem PySem.Spec PyProof.Rows L2
def sol : Nat → PyData → Bool
  | _, .none => true
  | _, .bool _ => true
  | _, .int _ => true
  | _, .str _ => true
  | n + 1, .tuple l => l.all (sol n)
  | _, _ => false
mutual
theorem Fz.sol {K : Fr} {P P' : Pd} {H : Hp} : ∀ {n : Nat} {v : V} {d : PyData}, Fz K P H v d → DL.sol n d = true → Fz K P' H v d
  | _, _, _, .non, _ => .non
  | _, _, _, .bl b, _ => .bl b
  | _, _, _, .int i, _ => .int i
  | _, _, _, .str x h h2, _ => .str x h h2
  | 0, _, _, .lst r n a, h => by cases h
  | _ + 1, _, _, .lst r n a, h => by cases h
  | 0, _, _, .tup r a, h => by cases h
  | n + 1, _, _, .tup r a, h => .tup r (FzA.sol a (List.all_eq_true.mp h))
theorem FzA.sol {K : Fr} {P P' : Pd} {H : Hp} : ∀ {n : Nat} {v : List V} {d : List PyData}, FzA K P H v d → (∀ e ∈ d, DL.sol n e = true) → FzA K P' H v d
  | _, _, _, .nil, _ => .nil
  | n, _, _, .cons a b, h => .cons (Fz.sol (n := n) a (h _ List.mem_cons_self)) (FzA.sol b fun e he => h e (List.mem_cons_of_mem _ he))
end
/-- a list, a dict whose items are such -/
def solR : PyData → Bool
  | .list l => l.all (sol 60)
  | .dict l => l.all fun p => sol 60 p.2
  | _ => false
theorem Cont.sol {K : Fr} {P P' : Pd} {H : Hp} {o : HO} {d : PyData} (h : Cont K P H o d) (e : solR d = true) : Cont K P' H o d := by
  cases h with
  | lst a => exact .lst (a.sol (List.all_eq_true.mp e))
  | dK k a => exact .dK k (a.sol (n := 60) fun x hx => by
      obtain ⟨p, hp, rfl⟩ := List.mem_map.mp hx
      exact List.all_eq_true.mp e p hp)
  | dT k a => exact .dT k (a.sol (n := 60) fun x hx => by
      obtain ⟨p, hp, rfl⟩ := List.mem_map.mp hx
      exact List.all_eq_true.mp e p (List.mem_cons_of_mem _ hp))
inductive SR where
  | st
  | nx (s : AE)
  | bk (s : AE)
  | ct (s : AE)
  | rt (fr : Bool) (d : PyData) (s : AE)
  | ex (e : PySem.Str) (s : AE)
def RtR (K : Fr) (c : RC) (H : Hp) (d : PyData) (v : V) : Bool → Prop
  | true => ∃ p, v = .ref p ∧ (c.inn p ∨ c.H0 p = none) ∧ (∀ q ∈ c.pins, q.2 ≠ .ref p) ∧ Own K (fun a => c.old a ∨ a = p) H p d
  | false => Fz K c.old H v d
def GoS (K : Fr) (W : WX) (c : RC) (D : Ends) : SR → Prop
  | .st => False
  | .nx s => ∀ σ H, Rst K c H s σ → D.nx σ H
  | .bk s => ∀ σ H, Rst K c H s σ → D.bk σ H
  | .ct s => ∀ σ H, Rst K c H s σ → D.ct σ H
  | .rt fr d s => ∀ v σ H, Rst K c H s σ → RtR K c H d v fr → D.rt v H
  | .ex e s => ∀ σ H, Rst K c H s σ → W (.ref (He.ga K e)) none σ H
abbrev SM := AE → SR
def tS (K : Fr) (W : WX) (m : SM) : TS := fun D σ H => ∃ c σa, Rst K c H σa σ ∧ GoS K W c D (m σa)
abbrev DS (X : Cx) (W : WX) (s : Stmt) (m : SM) : Prop := PS X s (tS X.K W m)
abbrev DB (X : Cx) (W : WX) (s : List Stmt) (m : SM) : Prop := PSs X s (tS X.K W m)
/-- an expression's result, then a statement's -/
def sB {α : Type} (r : Rs α) (s : AE) (f : α → SR) : SR := match r with
  | .st => .st
  | .ex e => .ex e s
  | .ok a => f a
@[simp] theorem sB_st {α : Type} (s : AE) (f : α → SR) : sB .st s f = .st := rfl
@[simp] theorem sB_ex {α : Type} (e : PySem.Str) (s : AE) (f : α → SR) : sB (.ex e) s f = .ex e s := rfl
@[simp] theorem sB_ok {α : Type} (a : α) (s : AE) (f : α → SR) : sB (.ok a) s f = f a := rfl
section
variable {K : Fr} {W : WX} {c : RC} {D : Ends} {σ : L2.St} {H : Hp} {α : Type} {σa : AE}
theorem GoS.go {r : Rs α} {f : α → SR} (Z : Rst K c H σa σ) (h : GoS K W c D (sB r σa f)) : Go K W c σ H r fun a => GoS K W c D (f a) := by
  cases r with
  | st => exact h
  | ex e => exact fun H' k => h σ H' (Z.kp k)
  | ok a => exact h
end
def sPass : SM := .nx
def sSeq (m u : SM) : SM := fun s => match m s with
  | .nx s' => u s'
  | r => r
def sIf (t : AE → Rs Bool) (m u : SM) : SM := fun s => sB (t s) s fun b => if b = true then m s else u s
def sDrop (f : AE → Rs AV) : SM := fun s => sB (f s) s fun _ => .nx s
def sBk : SM := .bk
def sCt : SM := .ct
/-- return -/
def rtA (s : AE) : AV → SR
  | .d fr d => .rt fr d s
  | .sl i => match s[i]? with
    | some (.o .ow d) => .rt true d s
    | _ => .st
def sRet (f : AE → Rs AV) : SM := fun s => sB (f s) s (rtA s)
def sRetN : SM := fun s => .rt false .none s
/-- may the slot be stored to? -/
def asg (s : AE) (i : Nat) : Bool := match s[i]? with
  | some .un => true
  | some (.v _) => true
  | some (.b _) => true
  | some (.o .ow _) => true
  | _ => false
def stA (i : Nat) (s : AE) : AV → SR
  | .d false d => if asg s i = true then .nx (s.set i (.v d)) else .st
  | .d true d => if asg s i = true then .nx (s.set i (.o .ow d)) else .st
  | .sl _ => .st
def sSet (i : Nat) (f : AE → Rs AV) : SM := fun s => sB (f s) s (stA i s)
section
variable {X : Cx} {W : WX} {st : Stmt} {rest a b : List Stmt} {e : Expr} {f : AE → Rs AV} {t : AE → Rs Bool} {m u : SM} {pos : Pos} {c : Expr}
theorem db_nil : DB X W [] sPass := pss_mono pss_nil fun D σ H ⟨c, σa, Z, q⟩ => q σ H Z
theorem db_one (h : DS X W st m) : DB X W [st] m := pss_one h
theorem db_cons (h1 : DS X W st m) (h2 : DB X W rest u) : DB X W (st :: rest) (sSeq m u) := pss_mono (pss_cons h1 h2) fun D σ H ⟨c, σa, Z, q⟩ => ⟨c, σa, Z, by
  unfold sSeq at q
  cases e : m σa with
  | nx s => rw [e] at q; exact fun σ' H' Z' => ⟨c, s, Z', q⟩
  | _ => rw [e] at q; exact q⟩
theorem ds_pass : DS X W (.Pass pos) sPass := ps_mono ps_pass fun D σ H ⟨c, σa, Z, q⟩ => q σ H Z
theorem ds_break : DS X W (.Break pos) sBk := ps_mono ps_break fun D σ H ⟨c, σa, Z, q⟩ => q σ H Z
theorem ds_continue : DS X W (.Continue pos) sCt := ps_mono ps_continue fun D σ H ⟨c, σa, Z, q⟩ => q σ H Z
theorem ds_if (hc : DT X W c t) (ha : DB X W a m) (hb : DB X W b u) : DS X W (.If c a b pos) (sIf t m u) := ps_mono (ps_if hc ha hb) fun D σ H ⟨c, σa, Z, q⟩ => ⟨c, σa, Z, (GoS.go Z q).mono fun b q H1 k1 => by
  cases b with
  | true => exact ⟨c, σa, Z.kp k1, q⟩
  | false => exact ⟨c, σa, Z.kp k1, q⟩⟩
theorem ds_expr (h : DE X W e f) (hs : swapsWith e none pos.line X.env = pure false := by rfl) : DS X W (.Expr e pos) (sDrop f) := ps_mono (ps_expr h hs) fun D σ H ⟨c, σa, Z, q⟩ => ⟨c, σa, Z, (GoS.go Z q).mono fun av q v H1 k1 r1 => q σ H1 (Z.kp k1)⟩
theorem rst_mu {K : Fr} {c : RC} {H : Hp} {σa : AE} {σ : L2.St} (Z : Rst K c H σa σ) {i : Nat} {k : Kd} {d : PyData} (e : σa[i]? = some (.o k d)) (hk : k ≠ .ln) : ∃ a, σ[i]? = some (some (V.ref a)) ∧ (c.inn a ∨ c.H0 a = none) ∧ Own K (Pr c σa σ) H a d := by
  obtain ⟨a, h1, h2⟩ := Z.own i k d e
  refine ⟨a, h1, Z.muta a ⟨i, k, d, e, hk, h1⟩, ?_⟩
  cases k
  · exact h2
  · exact h2
  · exact absurd rfl hk
theorem pin_root {K : Fr} {c : RC} {H : Hp} {σa : AE} {σ : L2.St} (Z : Rst K c H σa σ) {q : Nat × V} (hq : q ∈ c.pins) : ∃ a k d, q.2 = .ref a ∧ σa[q.1]? = some (AS.o k d) ∧ k ≠ .ow ∧ σ[q.1]? = some (some (V.ref a)) := by
  obtain ⟨h1, k, d, h2, h3⟩ := Z.pin q hq
  obtain ⟨a, h4, _⟩ := Z.own q.1 k d h2
  have e : q.2 = .ref a := Option.some.inj (Option.some.inj (h1.symm.trans h4))
  exact ⟨a, k, d, e, h2, h3, h4⟩
theorem ret_ok {K : Fr} {W : WX} {c : RC} {D : Ends} {H H1 : Hp} {σa : AE} {σ : L2.St} {av : AV} {v : V} (Z : Rst K c H σa σ) (q : GoS K W c D (rtA σa av)) (k : Kp c.tabs H H1) (r : AvR K c σa σ H H1 av v) : D.rt v H1 := by
  match av, r with
  | .d false d, r =>
    exact q v σ H1 (Z.kp k) (show Fz _ _ _ _ _ from Fz.anti (fun a z => .inr z) r)
  | .d true d, ⟨p, e, n, o, eo, co⟩ =>
    refine q v σ H1 (Z.kp k) ⟨p, e, .inr (Z.keep.fresh n), fun x hx => ?_, o, eo, co.weak fun a z => z.imp .inr id⟩
    obtain ⟨a, k', d', e1, h1, _, h2⟩ := pin_root Z hx
    rw [e1]
    intro z
    cases z
    exact Z.rt ⟨_, _, _, h1, h2⟩ n
  | .sl i, ⟨h, _⟩ =>
    have q : GoS K W c D (match σa[i]? with
      | some (.o .ow d) => .rt true d σa
      | _ => .st) := q
    split at q
    · rename_i d e
      obtain ⟨a, h1, h2, o, eo, co⟩ := rst_mu (Z.kp k) e (by intro z; cases z)
      rw [h] at h1; cases h1
      refine q _ σ H1 (Z.kp k) ⟨a, rfl, h2, fun x hx => ?_, o, eo, co.weak fun b z => z.elim .inr fun z => .inl ⟨i, _, _, e, z ▸ h⟩⟩
      obtain ⟨b, k', d', e1, h1, hk, h3⟩ := pin_root Z hx
      rw [e1]
      intro z
      cases z
      have := Z.inj _ _ _ _ _ _ _ h1 e h3 h
      subst this
      rw [e] at h1
      cases h1
      exact hk rfl
    · exact q.elim
theorem ds_ret (h : DE X W e f) : DS X W (.Return (some e) pos) (sRet f) := ps_mono (ps_ret h) fun D σ H ⟨c, σa, Z, q⟩ => ⟨c, σa, Z, (GoS.go Z q).mono fun av q v H1 k1 r1 => ret_ok Z q k1 r1⟩
theorem ds_retN : DS X W (.Return none pos) sRetN := ps_mono ps_retN fun D σ H ⟨c, σa, Z, q⟩ => q _ σ H Z (show Fz _ _ _ _ _ from .non)
end
section
variable {K : Fr} {c : RC} {H : Hp} {σa : AE} {σ : L2.St} {i : Nat}
theorem asg_lt (h : asg σa i = true) : i < σa.length ∧ ∀ k d, σa[i]? = some (.o k d) → k = .ow := by
  unfold asg at h
  cases e : σa[i]? with
  | none => rw [e] at h; cases h
  | some x =>
    rw [e] at h
    refine ⟨(List.getElem?_eq_some_iff.mp e).1, fun k d q => ?_⟩
    cases q
    cases k
    · rfl
    · cases h
    · cases h
theorem set_get {α : Type} {l : List α} {i j : Nat} {x y : α} (h : (l.set i x)[j]? = some y) : (j = i ∧ y = x) ∨ (j ≠ i ∧ l[j]? = some y) := by
  by_cases e : j = i
  · subst e
    by_cases hl : j < l.length
    · rw [List.getElem?_set_self hl] at h; cases h; exact .inl ⟨rfl, rfl⟩
    · rw [List.getElem?_eq_none (by simpa using hl)] at h; cases h
  · rw [List.getElem?_set_ne (fun z => e z.symm)] at h; exact .inr ⟨e, h⟩
theorem OwnK.mono' {P P' : Pd} {H' : Hp} {a : Addr} {d : PyData} {k : Kd} (kp : Keep P0 H H') (hp : ∀ a, P' a → P a ∨ H a = none) (h : OwnK K P H a d k) : OwnK K P' H' a d k := by
  cases k
  · obtain ⟨o, eo, co⟩ := (show Own _ _ _ _ _ from h)
    exact show Own _ _ _ _ _ from ⟨o, kp.oth a o eo (fun z => z) co.noTbl, co.mono kp.any hp⟩
  · obtain ⟨o, eo, co⟩ := (show Own _ _ _ _ _ from h)
    exact show Own _ _ _ _ _ from ⟨o, kp.oth a o eo (fun z => z) co.noTbl, co.mono kp.any hp⟩
  · obtain ⟨o, eo, co⟩ := (show Cr _ _ _ _ _ from h)
    exact show Cr _ _ _ _ _ from ⟨o, eo.keep kp (fun z => z) co.noTbl, co.mono kp.any hp⟩
theorem OwnK.anti {P P' : Pd} {a : Addr} {d : PyData} {k : Kd} (hp : ∀ a, P' a → P a) (h : OwnK K P H a d k) : OwnK K P' H a d k := h.mono' (Keep.refl _ _) fun a z => .inl (hp a z)
/-- the roots behind a store -/
theorem rt_set {s : AS} {v : V} (hl2 : i < σ.length) {a : Addr} (h : Rt (σa.set i s) (σ.set i (some v)) a) : Rt σa σ a ∨ (∃ k d, s = .o k d) ∧ v = .ref a := by
  obtain ⟨j, k, d, h1, h2⟩ := h
  rcases set_get h1 with ⟨rfl, e⟩ | ⟨hj, h1⟩
  · rw [List.getElem?_set_self hl2] at h2
    cases h2
    exact .inr ⟨⟨k, d, e.symm⟩, rfl⟩
  · rw [List.getElem?_set_ne (fun z => hj z.symm)] at h2
    exact .inl ⟨j, k, d, h1, h2⟩
/-- data at a slot -/
theorem rst_val {d : PyData} {v : V} (Z : Rst K c H σa σ) (ha : asg σa i = true) (hv : Fz K (Pr c σa σ) H v d) : Rst K c H (σa.set i (.v d)) (σ.set i (some v)) := by
  obtain ⟨hl, hk⟩ := asg_lt ha
  have hl2 : i < σ.length := by rw [← Z.len]; exact hl
  have ne : ∀ {j : Nat}, j ≠ i → (σ.set i (some v))[j]? = σ[j]? := fun {j} h => List.getElem?_set_ne (fun z => h z.symm)
  have sub : ∀ a, Rt (σa.set i (.v d)) (σ.set i (some v)) a → Rt σa σ a := fun a h => by
    rcases rt_set hl2 h with h | ⟨⟨_, _, z⟩, _⟩
    · exact h
    · cases z
  refine ⟨by rw [List.length_set, List.length_set]; exact Z.len, fun j d' h => ?_, fun j d' h => ?_, fun j k' d' h => ?_, fun j j' k1 k2 d1 d2 a h1 h2 h3 h4 => ?_, Z.keep, fun a h => ?_, fun q hq => ?_, fun j d' h => ?_, Z.tab, Z.oldT, Z.tabE, Z.ino⟩
  · rcases set_get h with ⟨rfl, e⟩ | ⟨hj, h⟩
    · cases e
      exact ⟨v, List.getElem?_set_self hl2, hv.anti (pr_imp sub)⟩
    · obtain ⟨u, h1, h2⟩ := Z.val j d' h
      exact ⟨u, (ne hj).trans h1, h2.anti (pr_imp sub)⟩
  · rcases set_get h with ⟨rfl, e⟩ | ⟨hj, h⟩
    · cases e
    · obtain ⟨a, h1, h2, o, r, co⟩ := Z.bor j d' h
      exact ⟨a, (ne hj).trans h1, fun z => h2 (sub a z), o, r, co.weak (pr_imp sub)⟩
  · rcases set_get h with ⟨rfl, e⟩ | ⟨hj, h⟩
    · cases e
    · obtain ⟨a, h1, q⟩ := Z.own j k' d' h
      exact ⟨a, (ne hj).trans h1, q.anti (pr_imp sub)⟩
  · rcases set_get h1 with ⟨rfl, e1⟩ | ⟨hj, h1⟩
    · cases e1
    · rcases set_get h2 with ⟨rfl, e2⟩ | ⟨hj', h2⟩
      · cases e2
      · rw [ne hj] at h3
        rw [ne hj'] at h4
        exact Z.inj j j' k1 k2 d1 d2 a h1 h2 h3 h4
  · obtain ⟨j, k', d', h1, hk', h2⟩ := h
    rcases set_get h1 with ⟨rfl, e⟩ | ⟨hj, h1⟩
    · cases e
    · rw [ne hj] at h2
      exact Z.muta a ⟨j, k', d', h1, hk', h2⟩
  · obtain ⟨h1, k', d', h2, h3⟩ := Z.pin q hq
    have hj : q.1 ≠ i := fun z => h3 (hk k' d' (z ▸ h2))
    exact ⟨(ne hj).trans h1, k', d', by rw [List.getElem?_set_ne (fun z => hj z.symm)]; exact h2, h3⟩
  · rcases set_get h with ⟨rfl, e⟩ | ⟨hj, h⟩
    · cases e
    · exact Z.lnp j d' h
/-- a new list or dict at a slot: it was made behind Hb -/
theorem rst_own {Hb : Hp} {d : PyData} {p : Addr} (Z : Rst K c Hb σa σ) (kp : Kp c.tabs Hb H) (ha : asg σa i = true) (hp : Hb p = none) (own : Own K (fun a => Pr c σa σ a ∨ a = p) H p d) : Rst K c H (σa.set i (.o .ow d)) (σ.set i (some (.ref p))) := by
  obtain ⟨hl, hk⟩ := asg_lt ha
  have hl2 : i < σ.length := by rw [← Z.len]; exact hl
  have ne : ∀ {j : Nat}, j ≠ i → (σ.set i (some (V.ref p)))[j]? = σ[j]? := fun {j} h => List.getElem?_set_ne (fun z => h z.symm)
  have hnp : ¬ Rt σa σ p := fun z => Z.rt z hp
  have sub : ∀ a, Rt (σa.set i (.o .ow d)) (σ.set i (some (.ref p))) a → Rt σa σ a ∨ a = p := fun a h => by
    rcases rt_set hl2 h with h | ⟨_, h⟩
    · exact .inl h
    · exact .inr (by cases h; rfl)
  have sub2 : ∀ a, Rt (σa.set i (.o .ow d)) (σ.set i (some (.ref p))) a → Rt σa σ a ∨ Hb a = none := fun a h => (sub a h).imp id fun z => by rw [z]; exact hp
  refine ⟨by rw [List.length_set, List.length_set]; exact Z.len, fun j d' h => ?_, fun j d' h => ?_, fun j k' d' h => ?_, fun j j' k1 k2 d1 d2 a h1 h2 h3 h4 => ?_, Z.keep.tr0 kp.k, fun a h => ?_, fun q hq => ?_, fun j d' h => ?_, kp.t, Z.oldT, Z.tabE, Z.ino⟩
  · rcases set_get h with ⟨_, e⟩ | ⟨hj, h⟩
    · cases e
    · obtain ⟨u, h1, h2⟩ := Z.val j d' h
      exact ⟨u, (ne hj).trans h1, h2.mono kp.k.any (pr_or sub2)⟩
  · rcases set_get h with ⟨_, e⟩ | ⟨hj, h⟩
    · cases e
    · obtain ⟨a, h1, h2, o, r, co⟩ := Z.bor j d' h
      refine ⟨a, (ne hj).trans h1, fun z => ?_, o, r.keep kp.k (fun z => z) co.noTbl, co.mono kp.k.any (pr_or sub2)⟩
      rcases sub a z with z | rfl
      · exact h2 z
      · exact rdThere r.rd hp
  · rcases set_get h with ⟨rfl, e⟩ | ⟨hj, h⟩
    · cases e
      obtain ⟨o, eo, co⟩ := own
      exact ⟨p, List.getElem?_set_self hl2, show Own _ _ _ _ _ from ⟨o, eo, co.weak fun a z => z.elim (fun z => (sub a z).imp .inl id) fun z => .inl (.inr z)⟩⟩
    · obtain ⟨a, h1, q⟩ := Z.own j k' d' h
      exact ⟨a, (ne hj).trans h1, q.mono' kp.k (pr_or sub2)⟩
  · rcases set_get h1 with ⟨rfl, e1⟩ | ⟨hj, h1⟩
    · rw [List.getElem?_set_self hl2] at h3
      cases h3
      rcases set_get h2 with ⟨rfl, e2⟩ | ⟨hj', h2⟩
      · rfl
      · rw [ne hj'] at h4
        exact absurd ⟨_, _, _, h2, h4⟩ hnp
    · rw [ne hj] at h3
      rcases set_get h2 with ⟨rfl, e2⟩ | ⟨hj', h2⟩
      · rw [List.getElem?_set_self hl2] at h4
        cases h4
        rw [List.getElem?_set_ne (fun z => hj z.symm)] at h1
        exact absurd ⟨_, _, _, h1, h3⟩ hnp
      · rw [ne hj'] at h4
        exact Z.inj j j' k1 k2 d1 d2 a h1 h2 h3 h4
  · obtain ⟨j, k', d', h1, hk', h2⟩ := h
    rcases set_get h1 with ⟨rfl, e⟩ | ⟨hj, h1⟩
    · rw [List.getElem?_set_self hl2] at h2; cases h2
      exact .inr (Z.keep.fresh hp)
    · rw [ne hj] at h2
      exact Z.muta a ⟨j, k', d', h1, hk', h2⟩
  · obtain ⟨h1, k', d', h2, h3⟩ := Z.pin q hq
    have hj : q.1 ≠ i := fun z => h3 (hk k' d' (z ▸ h2))
    exact ⟨(ne hj).trans h1, k', d', by rw [List.getElem?_set_ne (fun z => hj z.symm)]; exact h2, h3⟩
  · rcases set_get h with ⟨rfl, e⟩ | ⟨hj, h⟩
    · cases e
    · exact Z.lnp j d' h
theorem st_ok {W : WX} {D : Ends} {H1 : Hp} {av : AV} {v : V} (Z : Rst K c H σa σ) (q : GoS K W c D (stA i σa av)) (k : Kp c.tabs H H1) (r : AvR K c σa σ H H1 av v) : D.nx (σ.set i (some v)) H1 := by
  match av, r with
  | .d false d, r =>
    have q : GoS K W c D (if asg σa i = true then .nx (σa.set i (.v d)) else .st) := q
    split at q
    · rename_i h
      exact q _ _ (rst_val (Z.kp k) h r)
    · exact q.elim
  | .d true d, ⟨p, e, n, o⟩ =>
    have q : GoS K W c D (if asg σa i = true then .nx (σa.set i (.o .ow d)) else .st) := q
    split at q
    · rename_i h
      subst e
      exact q _ _ (rst_own Z k h n o)
    · exact q.elim
  | .sl _, _ => exact q.elim
end
section
variable {X : Cx} {W : WX} {e : Expr} {f : AE → Rs AV} {pos pos' : Pos} {i : Nat} {x : PySem.Str}
theorem ds_set (hN : X.N.Nodup) (h : DE X W e f) (hi : X.N[i]? = some x := by rfl) (hx : Loc X.env.scope x := by first | exact Or.inl rfl | exact Or.inr rfl) (hs : swapsWith e (some (.Name x pos')) pos.line X.env = pure false := by rfl) (hf : X.fn x = true ∨ X.env.scope.names.lookup x = some .local := by first | exact .inl rfl | exact .inr rfl) :
    DS X W (.Assign [.Name x pos'] e pos) (sSet i f) := ps_mono (ps_set hN hi hx h hs hf) fun D σ H ⟨c, σa, Z, q⟩ => ⟨c, σa, Z, (GoS.go Z q).mono fun av q v H1 k1 r1 => st_ok Z q k1 r1⟩
end
end DL
namespace DL
open PySem PySem.Spec PyProof.Rows L2
abbrev TgM := PyData → AE → Option AE
abbrev TgsM := List PyData → AE → Option AE
/-- the states differ at most at ts -/
structure Same (ts : List Nat) (σ σ' : L2.St) : Prop where
  len : σ'.length = σ.length
  at_ : ∀ j : Nat, j ∉ ts → σ'[j]? = σ[j]?
/-- what a target may write -/
def TgOk (t : TgM) (ts : List Nat) : Prop := ∀ d s s', t d s = some s' → ∀ j : Nat, j ∉ ts → s'[j]? = s[j]?
def TgsOk (t : TgsM) (ts : List Nat) : Prop := ∀ d s s', t d s = some s' → ∀ j : Nat, j ∉ ts → s'[j]? = s[j]?
def gD (K : Fr) (t : TgM) (ts : List Nat) : TG := fun v σ H Q => ∃ c σa d, Rst K c H σa σ ∧ Fz K (Pr c σa σ) H v d ∧ ∃ σa', t d σa = some σa' ∧ ∀ σ', Rst K c H σa' σ' → (∀ a, Rt σa' σ' a → Rt σa σ a) → Same ts σ σ' → Q σ' H
def gDs (K : Fr) (t : TgsM) (ts : List Nat) : TGs := fun vs σ H Q => ∃ c σa ds, Rst K c H σa σ ∧ FzA K (Pr c σa σ) H vs ds ∧ ∃ σa', t ds σa = some σa' ∧ ∀ σ', Rst K c H σa' σ' → (∀ a, Rt σa' σ' a → Rt σa σ a) → Same ts σ σ' → Q σ' H
structure DG (X : Cx) (e : Expr) (t : TgM) (ts : List Nat) : Prop where
  pg : PG X e (gD X.K t ts)
  ok : TgOk t ts
structure DGs (X : Cx) (es : List Expr) (t : TgsM) (ts : List Nat) : Prop where
  pg : PGs X es (gDs X.K t ts)
  ok : TgsOk t ts
theorem pg_mono {X : Cx} {e : Expr} {t t' : TG} (h : PG X e t) (q : ∀ v σ H Q, t' v σ H Q → t v σ H Q) : PG X e t' := ⟨fun pins s σ H v u Q I r z => h.run pins s σ H v u Q I r (q _ _ _ _ z)⟩
theorem pgs_mono {X : Cx} {e : List Expr} {t t' : TGs} (h : PGs X e t) (q : ∀ v σ H Q, t' v σ H Q → t v σ H Q) : PGs X e t' := ⟨fun pins s σ H v u Q I r z => h.run pins s σ H v u Q I r (q _ _ _ _ z)⟩
theorem pg_or {X : Cx} {e : Expr} {t t' : TG} (h : PG X e t) (h' : PG X e t') : PG X e (fun v σ H Q => t v σ H Q ∨ t' v σ H Q) := ⟨fun pins s σ H v u Q I r z => z.elim (h.run pins s σ H v u Q I r) (h'.run pins s σ H v u Q I r)⟩
def tN (i : Nat) : TgM := fun d s => if asg s i = true then some (s.set i (.v d)) else none
def tNil : TgsM := fun ds s => match ds with
  | [] => some s
  | _ => none
def tCons (t : TgM) (u : TgsM) : TgsM := fun ds s => match ds with
  | d :: r => (t d s).bind (u r)
  | [] => none
def tTup (n : Nat) (t : TgsM) : TgM := fun d s => match d with
  | .tuple ds => if ds.length = n then t ds s else none
  | .list ds => if ds.length = n then t ds s else none
  | _ => none
section
variable {X : Cx} {W : WX} {e : Expr} {es : List Expr} {f : AE → Rs AV} {pos pos' : Pos} {i k : Nat} {x : PySem.Str} {t : TgM} {u : TgsM} {ts us : List Nat}
theorem tgok_n : TgOk (tN i) [i] := fun d s s' h j hj => by
  unfold tN at h
  obtain ⟨_, rfl⟩ := ite_some h
  rw [List.getElem?_set_ne (fun z => hj (by rw [z]; exact List.mem_singleton_self _))]
theorem dg_name (hN : X.N.Nodup) (hi : X.N[i]? = some x := by rfl) (hx : Loc X.env.scope x := by first | exact Or.inl rfl | exact Or.inr rfl) (hf : X.fn x = true ∨ X.env.scope.names.lookup x = some .local := by first | exact .inl rfl | exact .inr rfl) :
    DG X (.Name x pos) (tN i) [i] := ⟨pg_mono (pg_name hN hi hx hf) fun v σ H Q ⟨c, σa, d, Z, f, σa', e, q⟩ => by
  unfold tN at e
  obtain ⟨ha, rfl⟩ := ite_some e
  refine q _ (rst_val Z ha f) (fun a h => ?_) ⟨List.length_set, fun j hj => List.getElem?_set_ne (fun z => hj (by rw [z]; exact List.mem_singleton_self _))⟩
  rcases rt_set (by rw [← Z.len]; exact (asg_lt ha).1) h with h | ⟨⟨_, _, z⟩, _⟩
  · exact h
  · exact (nomatch z), tgok_n⟩
theorem dgs_nil : DGs X [] tNil [] := ⟨pgs_mono pgs_nil fun vs σ H Q ⟨c, σa, ds, Z, f, σa', e, q⟩ => by
  unfold tNil at e
  split at e
  · cases e; cases f; exact ⟨rfl, q σ Z (fun _ h => h) ⟨rfl, fun _ _ => rfl⟩⟩
  · exact (nomatch e), fun d s s' h j hj => by
  unfold tNil at h
  split at h
  · cases h; rfl
  · cases h⟩
theorem dgs_cons (h1 : DG X e t ts) (h2 : DGs X es u us) (hs : (assignEach (e :: es) X.env).map (·.2) = assign e X.env :: (assignEach es X.env).map (·.2) := by rfl) : DGs X (e :: es) (tCons t u) (ts ++ us) := ⟨pgs_mono (pgs_cons h1.pg h2.pg hs) fun vs σ H Q ⟨c, σa, ds, Z, f, σa', e, q⟩ => by
  unfold tCons at e
  split at e
  · cases f with
    | cons f1 f2 =>
      cases e1 : t _ σa with
      | none => rw [e1] at e; cases e
      | some σ1 =>
        rw [e1] at e
        exact ⟨_, _, rfl, c, σa, _, Z, f1, σ1, e1, fun σ' Z' sub o1 => ⟨c, σ1, _, Z', f2.anti (pr_imp sub), σa', e, fun σ2 Z2 sub2 o2 => q σ2 Z2 (fun a h => sub a (sub2 a h)) ⟨o2.len.trans o1.len, fun j hj => (o2.at_ j fun z => hj (List.mem_append_right _ z)).trans (o1.at_ j fun z => hj (List.mem_append_left _ z))⟩⟩⟩
  · exact (nomatch e), fun d s s' h j hj => by
  unfold tCons at h
  split at h
  · cases e1 : t _ s with
    | none => rw [e1] at h; cases h
    | some s1 =>
      rw [e1] at h
      exact (h2.ok _ _ _ h j fun z => hj (List.mem_append_right _ z)).trans (h1.ok _ _ _ e1 j fun z => hj (List.mem_append_left _ z))
  · cases h⟩
theorem dg_tup {n : Nat} (hc : X.calm = true) (h : DGs X es u us) (hn : (assignEach es X.env).length = n := by rfl) (hst : (assignEach es X.env).findIdx? (·.1) = none := by rfl) : DG X (.Tuple es k pos) (tTup n u) us :=
  ⟨pg_mono (pg_or (pg_tup hc h.pg hn hst) (pg_lst hc h.pg hn hst)) fun v σ H Q ⟨c, σa, d, Z, f, σa', e, q⟩ => by
  unfold tTup at e
  split at e
  · split at e
    · cases f with
      | tup r a => exact .inl ⟨_, _, rfl, r, by rw [a.length]; assumption, c, σa, _, Z, a, σa', e, q⟩
    · cases e
  · split at e
    · cases f with
      | lst r _ a => exact .inr ⟨_, _, rfl, .inl (.inl r), by rw [a.length]; assumption, c, σa, _, Z, a, σa', e, q⟩
    · cases e
  · exact (nomatch e), fun d s s' e j hj => by
  unfold tTup at e
  split at e
  · split at e
    · exact h.ok _ _ _ e j hj
    · cases e
  · split at e
    · exact h.ok _ _ _ e j hj
    · cases e
  · cases e⟩
end
def ofT (o : Option AE) : SR := match o with
  | some s => .nx s
  | none => .st
@[simp] theorem ofT_some (s : AE) : ofT (some s) = .nx s := rfl
@[simp] theorem ofT_none : ofT none = .st := rfl
/-- target = e -/
def sAsg (t : TgM) (f : AE → Rs AV) : SM := fun s => sB (fz f s) s fun d => ofT (t d s)
/-- += of numbers, texts -/
def augAddD : PyData → PyData → Option AV := (fun d e => match d, e with | .int i, .int j => some (dv (.int (i + j))) | .str x, .str y => if lenOk (x.length + y.length) then some (dv (.str (x ++ y))) else none | _, _ => none)
/-- name op= e -/
def sAug (i : Nat) (op : PyData → PyData → Option AV) (g : AE → Rs PyData) : SM := fun s => match s[i]? with
  | some (.v d) => sB (g s) s fun e => match op d e with
    | some (.d false x) => stA i s (.d false x)
    | _ => .st
  | _ => .st
section
variable {X : Cx} {W : WX} {e : Expr} {f : AE → Rs AV} {g : AE → Rs PyData} {pos pos' : Pos} {i : Nat} {x : PySem.Str} {t : TgM} {tg : Expr}
theorem ds_asg {ts : List Nat} (h : DF X W e (fz f)) (hg : DG X tg t ts) (hs : swapsWithSole [tg] e pos.line X.env = pure false := by rfl) (hw : swappedStores [tg] e X.env = pure none := by rfl)
    (h1 : (assignEach [tg] X.env).map (·.2) = [assign tg X.env] := by rfl) : DS X W (.Assign [tg] e pos) (sAsg t f) := ps_mono (ps_asg h hg.pg hs hw h1) fun D σ H ⟨c, σa, Z, q⟩ => ⟨c, σa, Z, (GoS.go Z q).mono fun d q v H1 k1 r1 => by
  cases et : t d σa with
  | none => rw [et] at q; exact q.elim
  | some s => rw [et] at q; exact ⟨c, σa, d, Z.kp k1, r1, s, et, fun σ' Z' _ _ => q σ' H1 Z'⟩⟩
theorem ds_aug {o : Operator} {op : PyData → PyData → Option AV} {r : R2} (hN : X.N.Nodup) (ho : OpR X (inplaceOp o) r) (hb : B2 X.K op r) (h : DR X W e g) (hi : X.N[i]? = some x := by rfl) (hx : Loc X.env.scope x := by first | exact Or.inl rfl | exact Or.inr rfl) (hf : X.fn x = true ∨ X.env.scope.names.lookup x = some .local := by first | exact .inl rfl | exact .inr rfl) :
    DS X W (.AugAssign (.Name x pos') o e pos) (sAug i op g) := ps_mono (ps_aug (ti := r) hN hi hx h (fun pins s σ H x y v u Q I => ho pins s σ H x y v u Q I) hf) fun D σ H ⟨c, σa, Z, q⟩ => by
  unfold sAug at q
  split at q
  · rename_i d hd
    obtain ⟨v, h1, h2⟩ := Z.val i d hd
    refine ⟨v, h1, c, σa, Z, (GoS.go Z q).mono fun e q w H1 k1 r1 => ?_⟩
    split at q
    · rename_i x ex
      exact hb c σa σ H1 v w d e _ _ (Z.kp k1) (.inl (h2.keep0 k1.k)) r1 ex fun v' H' k2 r2 => st_ok Z q (k1.trans k2) (show Fz _ _ _ _ _ from r2)
    · exact q.elim
  · exact q.elim
theorem ds_augAdd (hN : X.N.Nodup) (h : DR X W e g) (hi : X.N[i]? = some x := by rfl) (hx : Loc X.env.scope x := by first | exact Or.inl rfl | exact Or.inr rfl) (hf : X.fn x = true ∨ X.env.scope.names.lookup x = some .local := by first | exact .inl rfl | exact .inr rfl) :
    DS X W (.AugAssign (.Name x pos') .Add e pos) (sAug i augAddD g) := ds_aug hN (iop_add.or iop_add_str) (fun c σa σ H v w d e av Q Z h1 h2 ev q => by
  unfold augAddD at ev
  split at ev
  · cases ev
    cases br_int h1; cases br_int h2
    exact .inl ⟨_, _, rfl, rfl, fin_v Z q (.int _)⟩
  · obtain ⟨hl, rfl⟩ := ite_some ev
    obtain ⟨rfl, o1, _⟩ := br_str h1
    obtain ⟨rfl, o2, _⟩ := br_str h2
    exact .inr ⟨_, _, rfl, rfl, lenOk.line hl, fin_v Z q (.str _ (strOk_append o1 o2) (by rw [len_append]; exact Nat.le_trans hl.le (by decide)))⟩
  · cases ev) h hi hx hf
theorem ds_augSub (hN : X.N.Nodup) (h : DR X W e g) (hi : X.N[i]? = some x := by rfl) (hx : Loc X.env.scope x := by first | exact Or.inl rfl | exact Or.inr rfl) (hf : X.fn x = true ∨ X.env.scope.names.lookup x = some .local := by first | exact .inl rfl | exact .inr rfl) :
    DS X W (.AugAssign (.Name x pos') .Sub e pos) (sAug i subD g) := ds_aug hN iop_sub (b2_int0 fun d e av h => by
  unfold subD at h; split at h <;> cases h; exact ⟨_, _, rfl, rfl, rfl⟩) h hi hx hf
end
section
variable {K : Fr} {c : RC} {H : Hp} {σa : AE} {σ : L2.St} {i : Nat}
theorem rt_same {σ' : AE} (h : ∀ j : Nat, (∃ (k : Kd) (d : PyData), σ'[j]? = some (AS.o k d)) → ∃ (k : Kd) (d : PyData), σa[j]? = some (AS.o k d)) {a : Addr} (z : Rt σ' σ a) : Rt σa σ a := by
  obtain ⟨j, k, d, h1, h2⟩ := z
  obtain ⟨k', d', h3⟩ := h j ⟨k, d, h1⟩
  exact ⟨j, k', d', h3, h2⟩
theorem own_noTup {P : Pd} {a : Addr} {d : PyData} (h : Own K P H a d) : ∀ xs, ¬ Rd H a (.tup xs) := by
  obtain ⟨o, e, co⟩ := h
  rintro xs (z | ⟨ob, z⟩)
  · rw [e] at z; cases z; exact co.noTup _ rfl
  · rw [e] at z; cases z; cases co
/-- the object of the own slot i is written -/
theorem rst_write {k : Kd} {d d' : PyData} {a : Addr} {o : HO} (Z : Rst K c H σa σ) (e : σa[i]? = some (.o k d)) (hk : k ≠ .ln) (ha : σ[i]? = some (some (V.ref a))) (co : Cont K (Pr c σa σ) (upd H a o) o d') : Rst K c (upd H a o) (σa.set i (.o k d')) σ := by
  have hl : i < σa.length := (List.getElem?_eq_some_iff.mp e).1
  obtain ⟨b, hb, hin, own⟩ := rst_mu Z e hk
  rw [ha] at hb; cases hb
  have kp : Keep (fun x => x = a) H (upd H a o) := Keep.set rfl (own_noTup own)
  have ra : Rt σa σ a := ⟨i, k, d, e, ha⟩
  have kp1 : Keep (Rt σa σ) H (upd H a o) := kp.imp fun x z => by rw [z]; exact ra
  have kp2 : Keep (Pr c σa σ) H (upd H a o) := kp1.imp fun x z => .inl z
  have sub : ∀ x, Rt (σa.set i (.o k d')) σ x → Rt σa σ x := fun x z => rt_same (fun j ⟨k1, d1, h1⟩ => by
    rcases set_get h1 with ⟨rfl, _⟩ | ⟨_, h1⟩
    · exact ⟨k, d, e⟩
    · exact ⟨k1, d1, h1⟩) z
  have sub2 : ∀ x, Pr c (σa.set i (.o k d')) σ x → Pr c σa σ x ∨ H x = none := fun x z => .inl (pr_imp sub x z)
  refine ⟨by rw [List.length_set]; exact Z.len, fun j d1 h => ?_, fun j d1 h => ?_, fun j k1 d1 h => ?_, fun j j' k1 k2 d1 d2 b h1 h2 h3 h4 => ?_, ?_, fun b h => ?_, fun q hq => ?_, fun j d1 h => ?_, fun t ht => ?_, Z.oldT, Z.tabE, Z.ino⟩
  · rcases set_get h with ⟨rfl, z⟩ | ⟨hj, h⟩
    · cases z
    · obtain ⟨v, h1, h2⟩ := Z.val j d1 h
      exact ⟨v, h1, h2.mono kp2 sub2⟩
  · rcases set_get h with ⟨rfl, z⟩ | ⟨hj, h⟩
    · cases z
    · obtain ⟨b, h1, h2, o', r, co'⟩ := Z.bor j d1 h
      exact ⟨b, h1, fun z => h2 (sub b z), o', r.keep kp1 h2 co'.noTbl, co'.mono kp2 sub2⟩
  · rcases set_get h with ⟨rfl, z⟩ | ⟨hj, h⟩
    · cases z
      refine ⟨a, ha, ?_⟩
      have w : Own K (Pr c (σa.set j (.o k d')) σ) (upd H a o) a d' := ⟨o, upd_same, co.weak (pr_imp sub)⟩
      cases k
      · exact w
      · exact w
      · exact absurd rfl hk
    · obtain ⟨b, h1, h2⟩ := Z.own j k1 d1 h
      have nb : b ≠ a := fun z => hj (Z.inj j i k1 k d1 d b h e h1 (z ▸ ha))
      refine ⟨b, h1, ?_⟩
      cases k1
      · obtain ⟨o', eo, co'⟩ := (show Own _ _ _ _ _ from h2)
        exact show Own _ _ _ _ _ from ⟨o', by rw [upd_ne nb]; exact eo, co'.mono kp2 sub2⟩
      · obtain ⟨o', eo, co'⟩ := (show Own _ _ _ _ _ from h2)
        exact show Own _ _ _ _ _ from ⟨o', by rw [upd_ne nb]; exact eo, co'.mono kp2 sub2⟩
      · obtain ⟨o', r, co'⟩ := (show Cr _ _ _ _ _ from h2)
        exact show Cr _ _ _ _ _ from ⟨o', r.imp (fun z => by rw [upd_ne nb]; exact z) (fun ⟨z1, ob, z2⟩ => ⟨z1, ob, by rw [upd_ne nb]; exact z2⟩), co'.mono kp2 sub2⟩
  · have g : ∀ {j : Nat} {k1 : Kd} {d1 : PyData}, (σa.set i (.o k d'))[j]? = some (.o k1 d1) → ∃ k2 d2, σa[j]? = some (.o k2 d2) := fun {j k1 d1} h => by
      rcases set_get h with ⟨rfl, _⟩ | ⟨_, h⟩
      · exact ⟨k, d, e⟩
      · exact ⟨k1, d1, h⟩
    obtain ⟨x1, y1, g1⟩ := g h1
    obtain ⟨x2, y2, g2⟩ := g h2
    exact Z.inj j j' x1 x2 y1 y2 b g1 g2 h3 h4
  · exact Z.keep.trans kp fun x z => by
      have z : x = a := z
      subst z
      exact hin
  · obtain ⟨j, k1, d1, h1, hk1, h2⟩ := h
    rcases set_get h1 with ⟨rfl, z⟩ | ⟨hj, h1⟩
    · rw [ha] at h2; cases h2; exact hin
    · exact Z.muta b ⟨j, k1, d1, h1, hk1, h2⟩
  · obtain ⟨h1, k1, d1, h2, h3⟩ := Z.pin q hq
    by_cases hj : q.1 = i
    · rw [hj] at h2
      rw [e] at h2; cases h2
      exact ⟨h1, k, d', by rw [hj, List.getElem?_set_self hl], h3⟩
    · exact ⟨h1, k1, d1, by rw [List.getElem?_set_ne (fun z => hj z.symm)]; exact h2, h3⟩
  · rcases set_get h with ⟨rfl, z⟩ | ⟨hj, h⟩
    · cases z; exact absurd rfl hk
    · exact Z.lnp j d1 h
  · refine (Z.tab t ht).ext fun b u e1 hu => ?_
    have nb : b ≠ a := fun z => by
      obtain ⟨o', eo, co'⟩ := own
      rw [z, eo] at e1
      cases e1
      rcases hu with hu | ⟨q, hu⟩
      · obtain ⟨ps, h1, _⟩ := Z.tab t ht
        rw [← hu, z, eo] at h1
        cases h1
        cases co'
      · unfold LamX.CodeO at hu
        cases hu
        cases co'
    rw [upd_ne nb]
    exact e1
end
/-- the own list of slot i, what becomes of it -/
def onL (i : Nat) (s : AE) (f : List PyData → SR) : SR := match s[i]? with
  | some (.o .ow (.list l)) => f l
  | some (.o .io (.list l)) => f l
  | _ => .st
/-- the slot's kind is kept -/
def putL (i : Nat) (s : AE) (d : PyData) : AE := match s[i]? with
  | some (.o k _) => s.set i (.o k d)
  | _ => s
theorem onL_case {K : Fr} {W : WX} {c : RC} {D : Ends} {i : Nat} {s : AE} {f : List PyData → SR} (h : GoS K W c D (onL i s f)) : ∃ k l, s[i]? = some (.o k (.list l)) ∧ k ≠ .ln ∧ GoS K W c D (f l) ∧ ∀ d, putL i s d = s.set i (.o k d) := by
  unfold onL at h
  split at h
  · rename_i l e
    exact ⟨_, l, e, (by intro z; cases z), h, fun d => by unfold putL; rw [e]⟩
  · rename_i l e
    exact ⟨_, l, e, (by intro z; cases z), h, fun d => by unfold putL; rw [e]⟩
  · exact h.elim
/-- x.append(e) -/
def sApp (i : Nat) (g : AE → Rs PyData) : SM := fun s => onL i s fun l => sB (g s) s fun d => if lenOk (l.length + 1) then .nx (putL i s (.list (l ++ [d]))) else .st
/-- x[k] = e -/
def sSetIx (i : Nat) (gk ge : AE → Rs PyData) : SM := fun s => sB (ge s) s fun d => onL i s fun l => sB (gk s) s fun k => match k with
  | .int z => match ixN l.length z with
    | some j => .nx (putL i s (.list (l.set j d)))
    | none => .st
  | _ => .st
section
variable {X : Cx} {W : WX} {e o ie : Expr} {f : AE → Rs AV} {g gk : AE → Rs PyData} {pos pos' apos cpos p : Pos} {i : Nat} {x : PySem.Str}
theorem ev_own {K : Fr} {c : RC} {H : Hp} {σa : AE} {σ : L2.St} {k : Kd} {d : PyData} (Z : Rst K c H σa σ) (e : σa[i]? = some (.o k d)) (hk : k ≠ .ln) : ∃ a, σ[i]? = some (some (V.ref a)) ∧ Own K (Pr c σa σ) H a d := let ⟨a, h1, _, h3⟩ := rst_mu Z e hk; ⟨a, h1, h3⟩
theorem go_b {K : Fr} {W : WX} {c : RC} {σ : L2.St} {H : Hp} {D : Ends} {α : Type} {r : Rs α} {f : α → SR} {σa : AE} (Z : Rst K c H σa σ) (h : GoS K W c D (sB r σa f)) : Go K W c σ H r fun a => GoS K W c D (f a) := GoS.go Z h
theorem ds_app (hg : DF X W e g) (hN : X.N[i]? = some x := by rfl) (hv : Vis X.env.scope x := by first | exact Or.inl rfl | exact Or.inr (Or.inl rfl) | exact Or.inr (Or.inr rfl)) (hd : (x == ("__debug__" : PySem.Str)) = false := by decide) (hcd : (x == ("__classdict__" : PySem.Str)) = false := by decide)
    (hbase : attributeBase (.Name x p) "append" X.env (eval (.Name x p) X.env) = eval (.Name x p) X.env := by rfl)
    (hfew : ((backTo cpos (starEach [e] X.env)).all (fun x => !x.1) && (backToKw cpos (keywordEach [] X.env)).all (fun x => x.1.isSome) && decide (([e] : List Expr).length + ([] : List Keyword).length + (if ([] : List Keyword).isEmpty then 0 else 1) < 30)) = true := by rfl)
    (hline : (apos.endLine == cpos.line) = true := by rfl) (hs : starEach [e] X.env = (false, eval e X.env) :: starEach [] X.env := by rfl) (hplain : (backTo cpos (starEach [] X.env)).any (·.1) = false := by rfl)
    (hsw : swapsWith (.Call (.Attribute (.Name x p) "append" apos) [e] [] cpos) none pos.line X.env = pure false := by rfl) :
    DS X W (.Expr (.Call (.Attribute (.Name x p) "append" apos) [e] [] cpos) pos) (sApp i g) := ps_mono (ps_expr (pe_bm PySem.F.plainAttrs_list PySem.F.slot_list_append PySem.F.type_list_append mt_append (pe_var hN hv hd hcd) (pa_cons hg pa_nil hs) hbase hfew hline hs hplain) hsw) fun D σ H ⟨c, σa, Z, q⟩ => by
  obtain ⟨k, l, e1, hk, q, hput⟩ := onL_case q
  obtain ⟨a, ha, own⟩ := ev_own Z e1 hk
  obtain ⟨o, eo, co⟩ := own
  cases co with
  | lst fz =>
  rename_i xs
  refine ⟨_, ha, .inl ⟨rfl, xs, .inl (.inl eo)⟩, c, σa, Z, (go_b Z q).mono fun d q v H1 k1 r1 => ?_⟩
  have eo1 : H1 a = some (.lst xs) := k1.k.oth a _ eo (fun z => z) (fun ps z => by cases z)
  split at q
  · rename_i hl
    refine ⟨a, xs, v, rfl, rfl, eo1, lenOk.lt (by rw [fz.length]; exact lenOk.of (by have := hl.le; omega)), ?_⟩
    have Z1 := Z.kp k1
    rw [hput] at q
    refine q σ _ (rst_write Z1 e1 hk ha ?_)
    have kp : Keep (Pr c σa σ) H1 (upd H1 a (.lst (xs ++ [v]))) := (Keep.set (P := fun x => x = a) rfl (own_noTup ⟨_, eo1, .lst (fz.keep0 k1.k)⟩)).imp fun x z => by rw [z]; exact .inl ⟨i, k, _, e1, ha⟩
    exact .lst (((fz.keep0 k1.k).append (.cons r1 .nil)).mono kp fun _ z => .inl z)
  · exact q.elim
theorem own_kp {K : Fr} {c : RC} {H : Hp} {σa : AE} {σ : L2.St} {k : Kd} {d : PyData} {a : Addr} {o : HO} (Z : Rst K c H σa σ) (e : σa[i]? = some (.o k d)) (hk : k ≠ .ln) (ha : σ[i]? = some (some (V.ref a))) : Keep (Pr c σa σ) H (upd H a o) := by
  obtain ⟨b, hb, own⟩ := ev_own Z e hk
  rw [ha] at hb; cases hb
  exact (Keep.set (P := fun x => x = a) rfl (own_noTup own)).imp fun x z => by rw [z]; exact .inl ⟨i, k, _, e, ha⟩
/-- x[k] = e, x an own list -/
theorem ds_setIx (hv' : DF X W e g) (hk' : DR X W ie gk) (hN : X.N[i]? = some x := by rfl) (hv : Vis X.env.scope x := by first | exact Or.inl rfl | exact Or.inr (Or.inl rfl) | exact Or.inr (Or.inr rfl)) (hd : (x == ("__debug__" : PySem.Str)) = false := by decide) (hcd : (x == ("__classdict__" : PySem.Str)) = false := by decide)
    (ha : ∀ v, assign (.Subscript (.Name x p) ie pos') X.env v = (do
      let ov ← holding [v] (eval (.Name x p) X.env)
      let iv ← holding [v, ov] (eval ie X.env)
      standAt pos'
      holding [v, ov, iv] (setItem ov iv v)
      release [v, ov, iv] []) := by intro _; rfl)
    (hs : swapsWithSole [.Subscript (.Name x p) ie pos'] e pos.line X.env = pure false := by rfl) (hw : swappedStores [.Subscript (.Name x p) ie pos'] e X.env = pure none := by rfl)
    (h1 : (assignEach [.Subscript (.Name x p) ie pos'] X.env).map (·.2) = [assign (.Subscript (.Name x p) ie pos') X.env] := by rfl) :
    DS X W (.Assign [.Subscript (.Name x p) ie pos'] e pos) (sSetIx i gk g) := ps_mono (ps_asg hv' (pg_sub (pe_var hN hv hd hcd) hk' set_list ha) hs hw h1) fun D σ H ⟨c, σa, Z, q⟩ => ⟨c, σa, Z, (go_b Z q).mono fun d q v H1 k1 r1 => by
  have Z1 := Z.kp k1
  obtain ⟨k, l, e1, hk, q, hput⟩ := onL_case q
  obtain ⟨a, ha', own⟩ := ev_own Z1 e1 hk
  obtain ⟨o, eo, co⟩ := own
  cases co with
  | lst fz =>
  rename_i xs
  refine ⟨_, ha', c, σa, Z1, (go_b Z1 q).mono fun z q w H2 k2 r2 => ?_⟩
  have eo2 : H2 a = some (.lst xs) := k2.k.oth a _ eo (fun z => z) (fun ps z => by cases z)
  split at q
  · rename_i z
    cases br_int r2
    split at q
    · rename_i j hj
      refine ⟨a, xs, z, j, rfl, rfl, eo2, by rw [fz.length]; exact hj, ?_⟩
      have Z2 := Z1.kp k2
      rw [hput] at q
      refine q σ _ (rst_write Z2 e1 hk ha' ?_)
      exact .lst (((fz.keep0 k2.k).set j (r1.keep0 k2.k)).mono (own_kp Z2 e1 hk ha') fun _ z => .inl z)
    · exact q.elim
  · exact q.elim⟩
end
def lend : List Nat → AE → AE
  | [], s => s
  | i :: r, s => match s[i]? with
    | some (.o _ d) => (lend r s).set i (.o .ln d)
    | _ => lend r s
/-- back from a loop: the lent ones are what they were (s0) -/
def unl (s0 : AE) : List Nat → AE → AE
  | [], s => s
  | i :: r, s => match s0[i]?, s[i]? with
    | some (.o k _), some (.o .ln d) => unl s0 r (s.set i (.o k d))
    | _, _ => unl s0 r s
def SR.map (f : AE → AE) : SR → SR
  | .st => .st
  | .nx s => .nx (f s)
  | .bk s => .bk (f s)
  | .ct s => .ct (f s)
  | .rt fr d s => .rt fr d (f s)
  | .ex e s => .ex e (f s)
/-- slots forgotten -/
def fgt : List Nat → AE → AE
  | [], s => s
  | i :: r, s => if asg s i = true then fgt r (s.set i .un) else fgt r s
section
variable {K : Fr} {c : RC} {H : Hp} {σa : AE} {σ : L2.St} {i : Nat}
/-- a slot forgotten -/
theorem rst_un (Z : Rst K c H σa σ) (ha : asg σa i = true) : Rst K c H (σa.set i .un) σ := by
  obtain ⟨hl, hk⟩ := asg_lt ha
  have g : ∀ {j : Nat} {s : AS}, (σa.set i .un)[j]? = some s → s ≠ .un → σa[j]? = some s := fun {j s} h n => by
    rcases set_get h with ⟨_, e⟩ | ⟨_, h⟩
    · exact absurd e n
    · exact h
  have sub : ∀ a, Rt (σa.set i .un) σ a → Rt σa σ a := fun a ⟨j, k, d, h1, h2⟩ => ⟨j, k, d, g h1 (by intro z; cases z), h2⟩
  refine ⟨by rw [List.length_set]; exact Z.len, fun j d h => ?_, fun j d h => ?_, fun j k d h => ?_, fun j j' k1 k2 d1 d2 a h1 h2 h3 h4 => ?_, Z.keep, fun a ⟨j, k, d, h1, h2, h3⟩ => ?_, fun q hq => ?_, fun j d h => ?_, Z.tab, Z.oldT, Z.tabE, Z.ino⟩
  · obtain ⟨v, h1, h2⟩ := Z.val j d (g h (by intro z; cases z))
    exact ⟨v, h1, h2.anti (pr_imp sub)⟩
  · obtain ⟨a, h1, h2, o, r, co⟩ := Z.bor j d (g h (by intro z; cases z))
    exact ⟨a, h1, fun z => h2 (sub a z), o, r, co.weak (pr_imp sub)⟩
  · obtain ⟨a, h1, h2⟩ := Z.own j k d (g h (by intro z; cases z))
    exact ⟨a, h1, h2.anti (pr_imp sub)⟩
  · exact Z.inj j j' k1 k2 d1 d2 a (g h1 (by intro z; cases z)) (g h2 (by intro z; cases z)) h3 h4
  · exact Z.muta a ⟨j, k, d, g h1 (by intro z; cases z), h2, h3⟩
  · obtain ⟨h1, k1, d1, h2, h3⟩ := Z.pin q hq
    have hj : q.1 ≠ i := fun z => h3 (hk k1 d1 (z ▸ h2))
    exact ⟨h1, k1, d1, by rw [List.getElem?_set_ne (fun z => hj z.symm)]; exact h2, h3⟩
  · exact Z.lnp j d (g h (by intro z; cases z))
theorem rst_fgt : ∀ {l : List Nat} {σa : AE}, Rst K c H σa σ → Rst K c H (fgt l σa) σ
  | [], _, Z => Z
  | i :: r, σa, Z => by
    unfold fgt
    split
    · rename_i h; exact rst_fgt (rst_un Z h)
    · exact rst_fgt Z
/-- what a state is within a loop: the point where the loop began -/
def lpt (c : RC) (H : Hp) (σa : AE) (σ : L2.St) (ls : List Nat) : RC :=
  ⟨H, Mu (lend ls σa) σ, (ls.filterMap fun i => match σa[i]?, σ[i]? with
    | some (.o _ _), some (some v) => some (i, v)
    | _, _ => none) ++ c.pins, c.tabs, c.old⟩
theorem lend_len : ∀ (l : List Nat) (s : AE), (lend l s).length = s.length
  | [], _ => rfl
  | i :: r, s => by
    unfold lend
    split
    · rw [List.length_set]; exact lend_len r s
    · exact lend_len r s
/-- what stands at a slot then -/
theorem lend_get : ∀ (l : List Nat) {s : AE} {j : Nat} {x : AS}, (lend l s)[j]? = some x → s[j]? = some x ∨ ∃ k d, j ∈ l ∧ s[j]? = some (.o k d) ∧ x = .o .ln d
  | [], _, _, _, h => .inl h
  | i :: r, s, j, x, h => by
    unfold lend at h
    split at h
    · rename_i k d e
      rcases set_get h with ⟨rfl, rfl⟩ | ⟨_, h⟩
      · exact .inr ⟨k, d, List.mem_cons_self, e, rfl⟩
      · rcases lend_get r h with h | ⟨k, d, h1, h2, h3⟩
        · exact .inl h
        · exact .inr ⟨k, d, List.mem_cons_of_mem _ h1, h2, h3⟩
    · rcases lend_get r h with h | ⟨k, d, h1, h2, h3⟩
      · exact .inl h
      · exact .inr ⟨k, d, List.mem_cons_of_mem _ h1, h2, h3⟩
theorem lend_own : ∀ (l : List Nat) {s : AE} {j : Nat} {k : Kd} {d : PyData}, s[j]? = some (.o k d) → (lend l s)[j]? = some (.o k d) ∨ (lend l s)[j]? = some (.o .ln d)
  | [], _, _, _, _, h => .inl h
  | i :: r, s, j, k, d, h => by
    unfold lend
    have hl : j < s.length := (List.getElem?_eq_some_iff.mp h).1
    split
    · rename_i k' d' e
      by_cases hj : j = i
      · subst hj
        rw [h] at e; cases e
        exact .inr (List.getElem?_set_self (by rw [lend_len]; exact hl))
      · rw [List.getElem?_set_ne (fun z => hj z.symm)]
        exact lend_own r h
    · exact lend_own r h
theorem lend_ln : ∀ (l : List Nat) {s : AE} {j : Nat} {k : Kd} {d : PyData}, j ∈ l → s[j]? = some (.o k d) → (lend l s)[j]? = some (.o .ln d)
  | i :: r, s, j, k, d, hm, h => by
    unfold lend
    have hl : j < s.length := (List.getElem?_eq_some_iff.mp h).1
    by_cases hj : j = i
    · subst hj
      rw [h]
      exact List.getElem?_set_self (by rw [lend_len]; exact hl)
    · have hm' : j ∈ r := (List.mem_cons.mp hm).resolve_left hj
      split
      · rw [List.getElem?_set_ne (fun z => hj z.symm)]
        exact lend_ln r hm' h
      · exact lend_ln r hm' h
theorem rt_lend {ls : List Nat} {a : Addr} : Rt (lend ls σa) σ a ↔ Rt σa σ a := by
  constructor
  · rintro ⟨j, k, d, h1, h2⟩
    rcases lend_get ls h1 with h | ⟨k', d', _, h, _⟩
    · exact ⟨j, k, d, h, h2⟩
    · exact ⟨j, k', d', h, h2⟩
  · rintro ⟨j, k, d, h1, h2⟩
    rcases lend_own ls h1 with h | h
    · exact ⟨j, _, _, h, h2⟩
    · exact ⟨j, _, _, h, h2⟩
theorem mu_lend {ls : List Nat} {a : Addr} (h : Mu (lend ls σa) σ a) : Mu σa σ a := by
  obtain ⟨j, k, d, h1, hk, h2⟩ := h
  rcases lend_get ls h1 with h | ⟨_, _, _, _, h⟩
  · exact ⟨j, k, d, h, hk, h2⟩
  · cases h; exact absurd rfl hk
theorem OwnK.ln {P : Pd} {a : Addr} {d : PyData} {k : Kd} (h : OwnK K P H a d k) : OwnK K P H a d .ln := show Cr _ _ _ _ _ from OwnK.cr h
/-- into a loop -/
theorem rst_lend (Z : Rst K c H σa σ) (ls : List Nat) : Rst K (lpt c H σa σ ls) H (lend ls σa) σ := by
  have sub : ∀ a, Rt (lend ls σa) σ a → Rt σa σ a := fun a h => rt_lend.mp h
  refine ⟨(lend_len ls σa).trans Z.len, fun j d h => ?_, fun j d h => ?_, fun j k d h => ?_, fun j j' k1 k2 d1 d2 a h1 h2 h3 h4 => ?_, Keep.refl _ _, fun a h => .inl h, fun q hq => ?_, fun j d h => ?_, Z.tab, fun a z => Z.keep.thr a (Z.oldT a z), Z.tabE, fun a z => Z.noOld (mu_lend z)⟩
  · rcases lend_get ls h with h | ⟨_, _, _, _, h⟩
    · obtain ⟨v, h1, h2⟩ := Z.val j d h
      exact ⟨v, h1, h2.anti (pr_imp sub)⟩
    · cases h
  · rcases lend_get ls h with h | ⟨_, _, _, _, h⟩
    · obtain ⟨a, h1, h2, o, r, co⟩ := Z.bor j d h
      exact ⟨a, h1, fun z => h2 (sub a z), o, r, co.weak (pr_imp sub)⟩
    · cases h
  · rcases lend_get ls h with h | ⟨k', d', _, h, e⟩
    · obtain ⟨a, h1, h2⟩ := Z.own j k d h
      exact ⟨a, h1, h2.anti (pr_imp sub)⟩
    · cases e
      obtain ⟨a, h1, h2⟩ := Z.own j k' _ h
      exact ⟨a, h1, (OwnK.ln h2).anti (pr_imp sub)⟩
  · have g : ∀ {j : Nat} {k : Kd} {d : PyData}, (lend ls σa)[j]? = some (.o k d) → ∃ k' d', σa[j]? = some (.o k' d') := fun {j k d} h => by
      rcases lend_get ls h with h | ⟨k', d', _, h, _⟩
      · exact ⟨k, d, h⟩
      · exact ⟨k', d', h⟩
    obtain ⟨_, _, g1⟩ := g h1
    obtain ⟨_, _, g2⟩ := g h2
    exact Z.inj j j' _ _ _ _ a g1 g2 h3 h4
  · rcases List.mem_append.mp hq with hq | hq
    · obtain ⟨i, hi, e⟩ := List.mem_filterMap.mp hq
      split at e
      · rename_i k d v e1 e2
        cases e
        exact ⟨e2, .ln, d, lend_ln ls hi e1, by intro z; cases z⟩
      · cases e
    · obtain ⟨h1, k1, d1, h2, h3⟩ := Z.pin q hq
      rcases lend_own ls h2 with h | h
      · exact ⟨h1, k1, d1, h, h3⟩
      · exact ⟨h1, .ln, d1, h, by intro z; cases z⟩
  · rcases lend_get ls h with h | ⟨k', d', hm, h, e⟩
    · obtain ⟨v, hv⟩ := Z.lnp j d h
      exact ⟨v, List.mem_append_right _ hv⟩
    · cases e
      obtain ⟨a, h1, _⟩ := Z.own j k' _ h
      refine ⟨.ref a, List.mem_append_left _ (List.mem_filterMap.mpr ⟨j, hm, ?_⟩)⟩
      rw [h, h1]
theorem unl_len (s0 : AE) : ∀ (l : List Nat) (s : AE), (unl s0 l s).length = s.length
  | [], _ => rfl
  | i :: r, s => by
    unfold unl
    split
    · rw [unl_len s0 r, List.length_set]
    · exact unl_len s0 r s
theorem unl_get (s0 : AE) : ∀ (l : List Nat) {s : AE} {j : Nat} {x : AS}, (unl s0 l s)[j]? = some x →
    (s[j]? = some x ∧ ∀ d, x = .o .ln d → j ∈ l → ∀ k d0, s0[j]? = some (.o k d0) → k = .ln) ∨ ∃ k d0 d, j ∈ l ∧ s0[j]? = some (.o k d0) ∧ s[j]? = some (.o .ln d) ∧ x = .o k d
  | [], _, _, _, h => .inl ⟨h, fun _ _ z => by cases z⟩
  | i :: r, s, j, x, h => by
    unfold unl at h
    split at h
    · rename_i k d0 d e1 e2
      rcases unl_get s0 r h with ⟨h, q⟩ | ⟨k', d0', d', hm, h1, h2, h3⟩
      · rcases set_get h with ⟨rfl, rfl⟩ | ⟨hj, h⟩
        · exact .inr ⟨k, d0, d, List.mem_cons_self, e1, e2, rfl⟩
        · exact .inl ⟨h, fun d z hm => q d z ((List.mem_cons.mp hm).resolve_left hj)⟩
      · rcases set_get h2 with ⟨rfl, z⟩ | ⟨hj, h2⟩
        · rw [e1] at h1; cases h1
          cases z
          exact .inr ⟨.ln, d0, _, List.mem_cons_self, e1, e2, h3⟩
        · exact .inr ⟨k', d0', d', List.mem_cons_of_mem _ hm, h1, h2, h3⟩
    · rename_i hne
      rcases unl_get s0 r h with ⟨h, q⟩ | ⟨k', d0', d', hm, h1, h2, h3⟩
      · refine .inl ⟨h, fun d z hm k d0 e0 => ?_⟩
        rcases List.mem_cons.mp hm with rfl | hm
        · subst z
          exact absurd h (hne k d0 d e0)
        · exact q d z hm k d0 e0
      · exact .inr ⟨k', d0', d', List.mem_cons_of_mem _ hm, h1, h2, h3⟩
/-- out of a loop -/
theorem rst_unl {Hs H2 : Hp} {σa2 : AE} {σ2 : L2.St} {ls : List Nat} (Z0 : Rst K c Hs σa σ) (Z : Rst K (lpt c Hs σa σ ls) H2 σa2 σ2)
    (hx : ∀ (j : Nat) (k : Kd) (d0 d : PyData) (a : Addr), j ∈ ls → σa[j]? = some (.o k d0) → k ≠ .ln → σ[j]? = some (some (V.ref a)) → Cr K (Pr c σa2 σ2) H2 a d → Own K (Pr c σa2 σ2) H2 a d) : Rst K c H2 (unl σa ls σa2) σ2 := by
  have g : ∀ {j : Nat} {k1 : Kd} {d1 : PyData}, (unl σa ls σa2)[j]? = some (.o k1 d1) → ∃ k2 d2, σa2[j]? = some (.o k2 d2) := fun {j k1 d1} h => by
    rcases unl_get σa ls h with ⟨h, _⟩ | ⟨_, _, d, _, _, h, _⟩
    · exact ⟨_, _, h⟩
    · exact ⟨_, _, h⟩
  have sub : ∀ a, Rt (unl σa ls σa2) σ2 a → Rt σa2 σ2 a := fun a ⟨j, k1, d1, h1, h2⟩ => let ⟨k2, d2, h3⟩ := g h1; ⟨j, k2, d2, h3, h2⟩
  -- a lent slot stands where it stood
  have same : ∀ (j : Nat) (k : Kd) (d0 : PyData) (a b : Addr), j ∈ ls → σa[j]? = some (.o k d0) → σ[j]? = some (some (V.ref a)) → σ2[j]? = some (some (V.ref b)) → b = a := fun j k d0 a b hm h1 h2 h3 => by
    have q : (j, V.ref a) ∈ (lpt c Hs σa σ ls).pins := List.mem_append_left _ (List.mem_filterMap.mpr ⟨j, hm, by rw [h1, h2]⟩)
    obtain ⟨h4, _⟩ := Z.pin _ q
    have h4 : σ2[j]? = some (some (V.ref a)) := h4
    rw [h4] at h3; cases h3; rfl
  refine ⟨(unl_len _ _ _).trans Z.len, fun j d1 h => ?_, fun j d1 h => ?_, fun j k1 d1 h => ?_, fun j j' k1 k2 d1 d2 a h1 h2 h3 h4 => ?_, ?_, fun a ⟨j, k1, d1, h1, h2, h3⟩ => ?_, fun q hq => ?_, fun j d1 h => ?_, Z.tab, Z0.oldT, Z0.tabE, Z0.ino⟩
  · rcases unl_get σa ls h with ⟨h, _⟩ | ⟨_, _, _, _, _, _, z⟩
    · obtain ⟨v, h1, h2⟩ := Z.val j d1 h
      exact ⟨v, h1, h2.anti (pr_imp sub)⟩
    · cases z
  · rcases unl_get σa ls h with ⟨h, _⟩ | ⟨_, _, _, _, _, _, z⟩
    · obtain ⟨a, h1, h2, o, r, co⟩ := Z.bor j d1 h
      exact ⟨a, h1, fun z => h2 (sub a z), o, r, co.weak (pr_imp sub)⟩
    · cases z
  · rcases unl_get σa ls h with ⟨h, _⟩ | ⟨k, d0, d, hm, e0, h, z⟩
    · obtain ⟨a, h1, h2⟩ := Z.own j k1 d1 h
      exact ⟨a, h1, h2.anti (pr_imp sub)⟩
    · cases z
      obtain ⟨a, h1, h2⟩ := Z.own j .ln d1 h
      obtain ⟨b, hb, _⟩ := Z0.own j k1 d0 e0
      have eb := same j k1 d0 b a hm e0 hb h1
      refine ⟨a, h1, ?_⟩
      by_cases hk : k1 = .ln
      · subst hk; exact h2.anti (pr_imp sub)
      · obtain ⟨o, eo, co⟩ := hx j k1 d0 d1 a hm e0 hk (eb ▸ hb) h2
        have w : Own K (Pr c (unl σa ls σa2) σ2) H2 a d1 := ⟨o, eo, co.weak (pr_imp sub)⟩
        cases k1
        · exact w
        · exact w
        · exact absurd rfl hk
  · obtain ⟨_, _, g1⟩ := g h1
    obtain ⟨_, _, g2⟩ := g h2
    exact Z.inj j j' _ _ _ _ a g1 g2 h3 h4
  · exact Z0.keep.trans Z.keep fun a h => Z0.muta a (mu_lend h)
  · rcases unl_get σa ls h1 with ⟨h, _⟩ | ⟨k, d0, d, hm, e0, h, z⟩
    · rcases Z.muta a ⟨j, k1, d1, h, h2, h3⟩ with h | h
      · exact Z0.muta a (mu_lend h)
      · exact .inr (Z0.keep.fresh h)
    · cases z
      obtain ⟨b, hb, _⟩ := Z0.own j k1 d0 e0
      have eb := same j k1 d0 b a hm e0 hb h3
      exact Z0.muta a ⟨j, k1, d0, e0, h2, eb ▸ hb⟩
  · obtain ⟨h1, k1, d1, h2, h3⟩ := Z.pin q (List.mem_append_right _ hq)
    refine ⟨h1, ?_⟩
    have hl : q.1 < (unl σa ls σa2).length := by rw [unl_len]; exact (List.getElem?_eq_some_iff.mp h2).1
    have e := List.getElem?_eq_getElem hl
    rcases unl_get σa ls e with ⟨h, _⟩ | ⟨k, d0, d, hm, e0, h, z⟩
    · rw [h2] at h
      exact ⟨k1, d1, by rw [e]; exact h.symm, h3⟩
    · obtain ⟨_, k2, d2, h4, h5⟩ := Z0.pin q hq
      rw [e0] at h4; cases h4
      exact ⟨k, d, by rw [e, z], h5⟩
  · rcases unl_get σa ls h with ⟨h, q⟩ | ⟨k, d0, d, hm, e0, h, z⟩
    · obtain ⟨v, hv⟩ := Z.lnp j d1 h
      rcases List.mem_append.mp hv with hv | hv
      · obtain ⟨i, hi, e⟩ := List.mem_filterMap.mp hv
        split at e
        · rename_i k d w e1 e2
          cases e
          have := q d1 rfl hi k d e1
          subst this
          exact Z0.lnp _ _ e1
        · cases e
      · exact ⟨v, hv⟩
    · cases z
      exact Z0.lnp j _ e0
/-- a lent root is not written -/
theorem lent_not {ls : List Nat} (Z : Rst K c H σa σ) {j : Nat} {k : Kd} {d : PyData} {a : Addr} (hm : j ∈ ls) (e : σa[j]? = some (.o k d)) (ha : σ[j]? = some (some (V.ref a))) : ¬ Mu (lend ls σa) σ a := by
  rintro ⟨j', k', d', h1, h2, h3⟩
  rcases lend_get ls h1 with h | ⟨_, _, _, _, h⟩
  · have := Z.inj j j' k k' d d' a e h ha h3
    subst this
    rw [lend_ln ls hm e] at h1
    cases h1
    exact h2 rfl
  · cases h; exact h2 rfl
/-- .. where nothing was locked -/
theorem rst_unl0 {Hs H2 : Hp} {σa2 : AE} {σ2 : L2.St} {ls : List Nat} (Z0 : Rst K c Hs σa σ) (Z : Rst K (lpt c Hs σa σ ls) H2 σa2 σ2) : Rst K c H2 (unl σa ls σa2) σ2 :=
  rst_unl Z0 Z fun j k d0 d a hm e0 hk ha ⟨o, r, co⟩ => by
  obtain ⟨b, hb, own⟩ := Z0.own j k d0 e0
  rw [ha] at hb; cases hb
  rcases r with r | ⟨nl, ob, r⟩
  · exact ⟨o, r, co⟩
  · exfalso
    have w : Own K (Pr c σa σ) Hs a d0 := by
      cases k
      · exact own
      · exact own
      · exact absurd rfl hk
    obtain ⟨o0, eo, co0⟩ := w
    have := Z.keep.oth a o0 eo (lent_not Z0 hm e0 ha) co0.noTbl
    rw [r] at this
    cases this
    cases co0
end
/-- J hands out ds, one by one, while the objects but those of inn are kept -/
def Yl (K : Fr) (P inn : Pd) (ts : List Addr) (H1 : Hp) (J : It) (ds : List PyData) : Prop := ∀ j H2, Keep inn H1 H2 → (∀ t ∈ ts, TabC H2 t) →
  (∀ d, ds[j]? = some d → J.go j H2 ∧ ∀ x H3, J.yld j H2 x H3 → Kp ts H2 H3 ∧ ∀ P', (∀ a, P' a → P a ∨ H1 a = none) → Fz K P' H3 x d) ∧ (ds.length ≤ j → J.stop j H2)
def tI (K : Fr) (W : WX) (g : AE → Rs (List PyData)) (ls : List Nat) : TI := fun σ H R => ∃ c σa, Rst K c H σa σ ∧ Go K W c σ H (g σa) fun ds => ∀ J H', Kp c.tabs H H' → Yl K (Pr c σa σ) (Mu (lend ls σa) σ) c.tabs H' J ds → R J H'
abbrev DI (X : Cx) (W : WX) (tg it : Expr) (g : AE → Rs (List PyData)) (ls : List Nat) : Prop := PI X tg it (tI X.K W g ls)
theorem pi_mono {X : Cx} {tg it : Expr} {t t' : TI} (h : PI X tg it t) (q : ∀ σ H R, t' σ H R → t σ H R) : PI X tg it t' := ⟨fun pins s σ H R I z => h.run pins s σ H R I (q _ _ _ z)⟩
theorem pi_or {X : Cx} {tg it : Expr} {t t' : TI} (h : PI X tg it t) (h' : PI X tg it t') : PI X tg it (fun σ H R => t σ H R ∨ t' σ H R) := ⟨fun pins s σ H R I z => z.elim (h.run pins s σ H R I) (h'.run pins s σ H R I)⟩
/-- the items of a list, a tuple -/
def itemsD : PyData → Rs (List PyData)
  | .list l => .ok l
  | .tuple l => .ok l
  | _ => .st
def iSeq (f : AE → Rs AV) : AE → Rs (List PyData) := fun s => (rd f s).bind itemsD
/-- range(n), range(a, b) -/
def rgD (lo hi : Int) : List PyData := (List.range (hi - lo).toNat).map fun k => .int (lo + (k : Nat))
def rgOk (lo hi : Int) : Prop := lo.natAbs.log2 < 60 ∧ hi.natAbs.log2 < 60
theorem rgOk.lt {lo hi : Int} (h : rgOk lo hi) : -(2 ^ 60) < lo ∧ lo < 2 ^ 60 ∧ -(2 ^ 60) < hi ∧ hi < 2 ^ 60 := by
  have h1 := of_log2 h.1
  have h2 := of_log2 h.2
  omega
theorem rgOk.of {lo hi : Int} (h : -(2 ^ 60) < lo ∧ lo < 2 ^ 60 ∧ -(2 ^ 60) < hi ∧ hi < 2 ^ 60) : rgOk lo hi := ⟨log2_of (by decide) (by omega), log2_of (by decide) (by omega)⟩
instance (lo hi : Int) : Decidable (rgOk lo hi) := by unfold rgOk; infer_instance
def iRg1 (g : AE → Rs PyData) : AE → Rs (List PyData) := fun s => (g s).bind fun d => match d with
  | .int n => if rgOk 0 n then .ok (rgD 0 n) else .st
  | _ => .st
def rg2D : PyData → PyData → Rs (List PyData)
  | .int n, .int m => if rgOk n m then .ok (rgD n m) else .st
  | _, _ => .st
def iRg2 (g h : AE → Rs PyData) : AE → Rs (List PyData) := fun s => (g s).bind fun d => (h s).bind fun e => rg2D d e
/-- the roots that an iterable's value leans on -/
def lsOf : AV → List Nat
  | .sl i => [i]
  | _ => []
section
variable {X : Cx} {W : WX} {e a b tg : Expr} {f : AE → Rs AV} {g h : AE → Rs PyData} {pos p : Pos} {ls : List Nat}
theorem rg_get {lo : Int} {n j : Nat} {d : PyData} (h : ((List.range n).map fun k => PyData.int (lo + (k : Nat)))[j]? = some d) : j < n ∧ d = .int (lo + (j : Nat)) := by
  rw [List.getElem?_map] at h
  cases e : (List.range n)[j]? with
  | none => rw [e] at h; cases h
  | some k =>
    rw [e] at h
    obtain ⟨h1, h2⟩ := List.getElem?_eq_some_iff.mp e
    rw [List.getElem_range] at h2
    subst h2
    rw [List.length_range] at h1
    exact ⟨h1, (Option.some.inj h).symm⟩
theorem yl_rg {K : Fr} {P inn : Pd} {ts : List Addr} {H1 : Hp} {lo : Int} {n : Nat} : Yl K P inn ts H1 (Itr lo n) ((List.range n).map fun k => PyData.int (lo + (k : Nat))) := fun j H2 k t => by
  refine ⟨fun d hd => ?_, fun hl => ?_⟩
  · obtain ⟨hj, rfl⟩ := rg_get hd
    refine ⟨hj, fun x H3 y => ?_⟩
    obtain ⟨rfl, rfl⟩ := y
    exact ⟨⟨Keep.refl _ _, t⟩, fun _ _ => .int _⟩
  · rw [List.length_map, List.length_range] at hl
    exact hl
theorem di_rg1 (hg : Gl X "range") (hm : X.mg "range" = none) (ha : DR X W a g) (hs : starEach [a] X.env = [(false, eval a X.env)] := by rfl) : DI X W tg (.Call (.Name "range" p) [a] [] pos) (iRg1 g) [] := pi_mono (pi_range1 hg hm (pa_cons ha pa_nil hs) hs) fun σ H R ⟨c, σa, Z, q⟩ => ⟨c, σa, Z, (Go.bind q).mono fun d q v H1 k1 r1 => by
  split at q
  · rename_i n
    split at q
    · rename_i hn
      cases br_int r1
      obtain ⟨h1, h2, h3, h4⟩ := hn.lt
      refine ⟨n, rfl, by omega, by omega, q _ H1 k1 ?_⟩
      have e : rgD 0 n = (List.range n.toNat).map fun k => PyData.int ((0 : Int) + (k : Nat)) := by unfold rgD; rw [Int.sub_zero]
      rw [e]
      exact yl_rg
    · exact q.elim
  · exact q.elim⟩
theorem rg2_ok {K : Fr} {c : RC} {σ : L2.St} {H : Hp} {d e : PyData} {k : List PyData → Prop} (h : Go K W c σ H (rg2D d e) k) : ∃ n m, d = .int n ∧ e = .int m ∧ rgOk n m ∧ k (rgD n m) := by
  unfold rg2D at h
  split at h
  · split at h
    · exact ⟨_, _, rfl, rfl, by assumption, h⟩
    · exact h.elim
  · exact h.elim
theorem di_rg2 (hg : Gl X "range") (hm : X.mg "range" = none) (ha : DR X W a g) (hb : DR X W b h) (hs : starEach [a, b] X.env = [(false, eval a X.env), (false, eval b X.env)] := by rfl) (hs2 : starEach [b] X.env = [(false, eval b X.env)] := by rfl) : DI X W tg (.Call (.Name "range" p) [a, b] [] pos) (iRg2 g h) [] :=
  pi_mono (pi_range2 hg hm (pa_cons ha (pa_cons hb pa_nil hs2) (by rw [hs, hs2])) hs hs2) fun σ H R ⟨c, σa, Z, q⟩ => ⟨c, σa, Z, (Go.bind q).mono fun d q v H1 k1 r1 => ⟨c, σa, Z.kp k1, ((Go.bind q).later k1).mono fun e q w H2 k2 r2 => by
  obtain ⟨n, m, rfl, rfl, hn, q⟩ := rg2_ok q
  cases br_int r1; cases br_int r2
  obtain ⟨h1, h2, h3, h4⟩ := hn.lt
  exact ⟨n, m, rfl, ⟨by omega, by omega, by omega, by omega⟩, q _ H2 (k1.trans k2) yl_rg⟩⟩⟩
/-- items of the content at a root -/
theorem fz_items {K : Fr} {P inn : Pd} {ts : List Addr} {H1 H2 : Hp} {xs : List V} {ds : List PyData} {j : Nat} {d : PyData} {x : V} (f : FzA K P H1 xs ds) (k : Keep inn H1 H2) (hi : ∀ a, inn a → P a) (t : ∀ t ∈ ts, TabC H2 t) (hd : ds[j]? = some d) (hx : xs[j]? = some x) :
    Kp ts H2 H2 ∧ ∀ P', (∀ a, P' a → P a ∨ H1 a = none) → Fz K P' H2 x d := by
  obtain ⟨x', e, fx⟩ := f.get hd
  rw [hx] at e; cases e
  exact ⟨⟨Keep.refl _ _, t⟩, fun P' hp => fx.mono (k.imp hi) hp⟩
theorem yl_lst {K : Fr} {P inn : Pd} {ts : List Addr} {H1 : Hp} {a : Addr} {xs : List V} {ds : List PyData} (eo : H1 a = some (.lst xs)) (f : FzA K P H1 xs ds) (hi : ∀ a, inn a → P a) (na : ¬ inn a) : Yl K P inn ts H1 (Itl K a) ds := fun j H2 k t => by
  have e2 : H2 a = some (.lst xs) := k.oth a _ eo na (fun ps z => by cases z)
  refine ⟨fun d hd => ?_, fun hl => ⟨xs, .inl (.inl e2), by rw [f.length]; exact hl⟩⟩
  obtain ⟨x, hx, _⟩ := f.get hd
  refine ⟨⟨xs, x, .inl (.inl e2), hx⟩, fun y H3 z => ?_⟩
  obtain ⟨rfl, z⟩ := z
  exact fz_items f k hi t hd (z xs (.inl (.inl e2)))
theorem yl_tup {K : Fr} {P inn : Pd} {ts : List Addr} {H1 : Hp} {a : Addr} {xs : List V} {ds : List PyData} (s : SqT K H1 a xs) (f : FzA K P H1 xs ds) (hi : ∀ a, inn a → P a) : Yl K P inn ts H1 (Itt K a) ds := fun j H2 k t => by
  have e2 : SqT K H2 a xs := sqt_keep s k
  refine ⟨fun d hd => ?_, fun hl => ⟨xs, e2, by rw [f.length]; exact hl⟩⟩
  obtain ⟨x, hx, _⟩ := f.get hd
  refine ⟨⟨xs, x, e2, hx⟩, fun y H3 z => ?_⟩
  obtain ⟨rfl, z⟩ := z
  exact fz_items f k hi t hd (z xs e2)
theorem mu_rt {σa : AE} {σ : L2.St} {a : Addr} (h : Mu σa σ a) : Rt σa σ a := let ⟨j, k, d, h1, _, h2⟩ := h; ⟨j, k, d, h1, h2⟩
/-- the value of an iterable: its list is not written in the loop (its slot is lent, or it is no slot's) -/
def okSl (ls : List Nat) : AV → Bool
  | .sl i => decide (i ∈ ls)
  | _ => true
theorem seq_na {K : Fr} {c : RC} {H H1 : Hp} {σa : AE} {σ : L2.St} {ls : List Nat} {av : AV} {a : Addr} {l : List PyData} (Z : Rst K c H σa σ) (k : Kp c.tabs H H1) (r : AvR K c σa σ H H1 av (.ref a)) (hls : okSl ls av = true) (e : gt σa av = .ok (.list l)) : ¬ Mu (lend ls σa) σ a := fun z => by
  have hi : ∀ a, Mu (lend ls σa) σ a → Rt σa σ a := fun a h => mu_rt (mu_lend h)
  match av, r with
  | .d false x, r =>
    cases e
    have r : Fz K (Pr c σa σ) H1 (.ref a) (.list l) := r
    cases r with
    | lst _ n _ => exact n (.inl (hi a z))
  | .d true x, ⟨p, ep, n, _⟩ =>
    cases ep
    exact Z.rt (hi a z) n
  | .sl i, ⟨h, x, hs⟩ =>
    rcases hs with hs | ⟨k1, hs⟩
    · obtain ⟨b, h1, h2, _⟩ := (Z.kp k).bor i x hs
      rw [h] at h1; cases h1
      exact h2 (hi a z)
    · exact lent_not Z (of_decide_eq_true hls) hs h z
theorem seq_l {K : Fr} {c : RC} {H H1 : Hp} {σa : AE} {σ : L2.St} {ls : List Nat} {av : AV} {v : V} {ds : List PyData} (Z : Rst K c H σa σ) (k : Kp c.tabs H H1) (r : AvR K c σa σ H H1 av v) (hls : okSl ls av = true) (e : gt σa av = .ok (.list ds)) :
    ∃ a xs, v = .ref a ∧ H1 a = some (.lst xs) ∧ FzA K (Pr c σa σ) H1 xs ds ∧ ¬ Mu (lend ls σa) σ a := by
  obtain ⟨a, xs, rfl, s, f⟩ := br_lst (r.br (Z.kp k) e)
  exact ⟨a, xs, rfl, s, f, seq_na Z k r hls e⟩
theorem seq_t {K : Fr} {c : RC} {H H1 : Hp} {σa : AE} {σ : L2.St} {av : AV} {v : V} {ds : List PyData} (Z : Rst K c H σa σ) (k : Kp c.tabs H H1) (r : AvR K c σa σ H H1 av v) (e : gt σa av = .ok (.tuple ds)) :
    ∃ a xs, v = .ref a ∧ SqT K H1 a xs ∧ FzA K (Pr c σa σ) H1 xs ds := br_tup (r.br (Z.kp k) e)
theorem lend_rt {c : RC} {σa : AE} {σ : L2.St} {ls : List Nat} : ∀ a, Mu (lend ls σa) σ a → Pr c σa σ a := fun a h => .inl (mu_rt (mu_lend h))
/-- ls holds the slot, if the value is one -/
def lsFor (f : AE → Rs AV) (ls : List Nat) : AE → Rs AV := fun s => (f s).bind fun av => if okSl ls av = true then .ok av else .st
theorem go_ls {K : Fr} {W : WX} {c : RC} {σ : L2.St} {H : Hp} {σa : AE} {ls : List Nat} {α : Type} {k : α → Prop} {g : AV → Rs α} (h : Go K W c σ H ((lsFor f ls σa).bind g) k) : Go K W c σ H (f σa) fun av => okSl ls av = true ∧ Go K W c σ H (g av) k := by
  unfold lsFor at h
  cases e : f σa with
  | st => rw [e] at h; exact h
  | ex x => rw [e] at h; exact h
  | ok av =>
    rw [e] at h
    simp only [Rs.bind_ok] at h
    by_cases hl : okSl ls av = true
    · rw [if_pos hl] at h; exact ⟨hl, h⟩
    · rw [if_neg hl] at h; exact h.elim
theorem di_seq (he : DE X W e f) : DI X W tg e (iSeq (lsFor f ls)) ls := pi_mono (pi_or (pi_list he) (pi_tup he)) fun σ H R ⟨c, σa, Z, q⟩ => by
  -- which of both is told by the value's data
  have q := go_ls (Go.bind (show Go X.K W c σ H (((lsFor f ls σa).bind (gt σa)).bind itemsD) _ from q))
  cases ef : f σa with
  | st => rw [ef] at q; exact q.elim
  | ex x => rw [ef] at q; exact .inl ⟨c, σa, Z, by rw [ef]; exact q⟩
  | ok av =>
    rw [ef] at q
    obtain ⟨hls, q⟩ := q
    obtain ⟨d, ed, q⟩ := go_gt q
    cases d with
    | list l =>
      refine .inl ⟨c, σa, Z, ?_⟩
      rw [ef]
      intro v H1 k1 r1
      obtain ⟨a, xs, rfl, s, f1, na⟩ := seq_l Z k1 r1 hls ed
      exact ⟨a, rfl, ⟨xs, .inl (.inl s)⟩, q _ H1 k1 (yl_lst s f1 lend_rt na)⟩
    | tuple l =>
      refine .inr ⟨c, σa, Z, ?_⟩
      rw [ef]
      intro v H1 k1 r1
      obtain ⟨a, xs, rfl, s, f1⟩ := seq_t Z k1 r1 ed
      exact ⟨a, rfl, ⟨xs, s⟩, q _ H1 k1 (yl_tup s f1 lend_rt)⟩
    | _ => exact (show False from q).elim
end
/-- the turns -/
def forL (t : TgM) (body : SM) (fg : List Nat) : List PyData → SM
  | [], s => .nx s
  | d :: ds, s => match t d s with
    | none => .st
    | some s1 => match body s1 with
      | .nx s2 => forL t body fg ds (fgt fg s2)
      | .ct s2 => forL t body fg ds (fgt fg s2)
      | .bk s2 => .nx (fgt fg s2)
      | r => r
/-- for t in it: body; fg: slots that nothing asks for behind a turn -/
def sFor (it : AE → Rs (List PyData)) (ls : List Nat) (t : TgM) (body : SM) (fg : List Nat) : SM := fun s => sB (it s) s fun ds => (forL t body fg ds (fgt fg (lend ls s))).map (unl s ls)
section
variable {K : Fr} {W : WX} {c : RC} {D : Ends} {Hs : Hp} {σa : AE} {σ : L2.St} {ls : List Nat}
/-- the ends of a loop's turns -/
def Dl (D : Ends) (N : L2.St → Hp → Prop) : Ends := { D with nx := N, ct := N, bk := D.nx }
theorem gos_out (Z0 : Rst K c Hs σa σ) {r : SR} (hD : ∀ s σ2 H2, Rst K (lpt c Hs σa σ ls) H2 s σ2 → Rst K c H2 (unl σa ls s) σ2) (h : GoS K W c D (r.map (unl σa ls))) : GoS K W (lpt c Hs σa σ ls) D r := by
  cases r with
  | st => exact h
  | nx s => exact fun σ2 H2 Z => h σ2 H2 (hD s σ2 H2 Z)
  | bk s => exact fun σ2 H2 Z => h σ2 H2 (hD s σ2 H2 Z)
  | ct s => exact fun σ2 H2 Z => h σ2 H2 (hD s σ2 H2 Z)
  | ex e s => exact fun σ2 H2 Z => h σ2 H2 (hD s σ2 H2 Z)
  | rt fr d s =>
    intro v σ2 H2 Z r
    refine h v σ2 H2 (hD s σ2 H2 Z) ?_
    cases fr with
    | false => exact r
    | true =>
      obtain ⟨p, e, hp, o1, o2⟩ := r
      refine ⟨p, e, ?_, fun q hq => o1 q (List.mem_append_right _ hq), o2⟩
      rcases hp with hp | hp
      · exact Z0.muta p (mu_lend hp)
      · exact .inr (Z0.keep.fresh hp)
/-- one turn -/
theorem forL_turn {t : TgM} {body : SM} {fg : List Nat} {d : PyData} {ds : List PyData} {s : AE} (h : GoS K W c D (forL t body fg (d :: ds) s)) :
    ∃ s1, t d s = some s1 ∧ GoS K W c (Dl D fun σ' H' => ∃ s2, Rst K c H' s2 σ' ∧ GoS K W c D (forL t body fg ds s2)) (body s1) := by
  unfold forL at h
  cases e : t d s with
  | none => rw [e] at h; exact h.elim
  | some s1 =>
    rw [e] at h
    refine ⟨s1, rfl, ?_⟩
    simp only at h
    cases eb : body s1 with
    | st => rw [eb] at h; exact h
    | nx s2 => rw [eb] at h; exact fun σ' H' Z => ⟨_, rst_fgt Z, h⟩
    | ct s2 => rw [eb] at h; exact fun σ' H' Z => ⟨_, rst_fgt Z, h⟩
    | bk s2 => rw [eb] at h; exact fun σ' H' Z => h σ' H' (rst_fgt Z)
    | rt fr d s2 => rw [eb] at h; exact h
    | ex e s2 => rw [eb] at h; exact h
end
section
variable {X : Cx} {W : WX} {tg iter : Expr} {body : List Stmt} {g : AE → Rs (List PyData)} {ls fg : List Nat} {t : TgM} {m : SM} {pos : Pos}
/-- what a loop's roots were -/
theorem loop_rt {K : Fr} {c : RC} {Hs H2 : Hp} {σa σ2a : AE} {σ σ2 : L2.St} {ls : List Nat} (Z0 : Rst K c Hs σa σ) (Z : Rst K (lpt c Hs σa σ ls) H2 σ2a σ2) : ∀ a, Rt σ2a σ2 a → Rt σa σ a ∨ Hs a = none := fun a ⟨j, k, d, h1, h2⟩ => by
  by_cases hk : k = .ln
  · subst hk
    obtain ⟨v, hv⟩ := Z.lnp j d h1
    obtain ⟨h3, _⟩ := Z.pin _ hv
    have h3 : σ2[j]? = some (some v) := h3
    rw [h2] at h3; cases h3
    left
    rcases List.mem_append.mp hv with hv | hv
    · obtain ⟨i, hi, e⟩ := List.mem_filterMap.mp hv
      split at e
      · rename_i k' d' v' e1 e2
        cases e
        exact ⟨_, k', d', e1, e2⟩
      · cases e
    · obtain ⟨h4, k', d', h5, _⟩ := Z0.pin _ hv
      exact ⟨_, k', d', h5, h4⟩
  · rcases Z.muta a ⟨j, k, d, h1, hk, h2⟩ with h | h
    · exact .inl (mu_rt (mu_lend h))
    · exact .inr h
theorem ds_for (hp : PassesOwn (model X.prog X.w) X.A X.env X.xe) (hc : X.calm = true) {ts : List Nat} (hi : DI X W tg iter g ls) (hg : DG X tg t ts) (hb : DB X W body m) (hs : ∀ x, foldedSetIterable iter X.env x = pure x := by intro _; rfl) : DS X W (.For tg iter body [] pos) (sFor g ls t m fg) :=
  ps_mono (ps_for hp hc hi hg.pg hb hs) fun D σ H ⟨c, σa, Z, q⟩ => ⟨c, σa, Z, (go_b Z q).mono fun ds q J H1 k1 y => by
  have Z1 := Z.kp k1
  have q1 : GoS X.K W (lpt c H1 σa σ ls) D (forL t m fg ds (fgt fg (lend ls σa))) := gos_out Z1 (fun s σ2 H2 Z2 => rst_unl0 Z1 Z2) q
  have Zl := rst_fgt (l := fg) (rst_lend Z1 ls)
  refine ⟨fun i mm σ2 H2 => mm = ds.length - i ∧ i ≤ ds.length ∧ ∃ s2, Rst X.K (lpt c H1 σa σ ls) H2 s2 σ2 ∧ GoS X.K W (lpt c H1 σa σ ls) D (forL t m fg (ds.drop i) s2), ⟨ds.length, by simp, Nat.zero_le _, _, Zl, by rw [List.drop_zero]; exact q1⟩, ?_⟩
  rintro i mm σ2 H2 ⟨rfl, hi, s2, Z2, q2⟩
  obtain ⟨yg, ys⟩ := y i H2 Z2.keep Z2.tab
  by_cases hl : i < ds.length
  · right
    have e := List.getElem?_eq_getElem hl
    obtain ⟨go, st⟩ := yg _ e
    rw [List.drop_eq_getElem_cons hl] at q2
    obtain ⟨s1, e1, q3⟩ := forL_turn q2
    refine ⟨go, fun σ' H' => ∃ s2, Rst X.K (lpt c H1 σa σ ls) H' s2 σ' ∧ GoS X.K W (lpt c H1 σa σ ls) D (forL t m fg (ds.drop (i + 1)) s2), fun σ' H' n => ⟨ds.length - (i + 1), by omega, rfl, hl, n⟩, fun x H3 z => ?_⟩
    obtain ⟨k3, f3⟩ := st x H3 z
    have Z3 := Z2.kp k3
    refine ⟨_, s2, _, Z3, f3 _ (fun a z => z.elim (fun z => (loop_rt Z1 Z2 a z).imp .inl id) fun z => .inl (.inr z)), s1, e1, fun σ' Z' _ _ => ⟨_, s1, Z', q3⟩⟩
  · left
    have e : i = ds.length := by omega
    subst e
    rw [List.drop_length] at q2
    exact ⟨ys (Nat.le_refl _), q2 σ2 H2 Z2⟩⟩
/-- while -/
def whL (t : AE → Rs Bool) (body : SM) (fg : List Nat) : Nat → SM
  | 0, _ => .st
  | n + 1, s => sB (t s) s fun b => if b = true then match body s with
      | .nx s2 => whL t body fg n (fgt fg s2)
      | .ct s2 => whL t body fg n (fgt fg s2)
      | .bk s2 => .nx (fgt fg s2)
      | r => r
    else .nx s
def sWhile (n : Nat) (t : AE → Rs Bool) (body : SM) (fg : List Nat) : SM := fun s => whL t body fg n (fgt fg s)
theorem ds_while {n : Nat} {te : Expr} {tt : AE → Rs Bool} (hp : PassesOwn (model X.prog X.w) X.A X.env X.xe) (hc : DT X W te tt) (hb : DB X W body m) : DS X W (.While te body [] pos) (sWhile n tt m fg) :=
  ps_mono (ps_while hp hc hb) fun D σ H ⟨c, σa, Z, q⟩ => by
  refine ⟨fun n σ H => ∃ s, Rst X.K c H s σ ∧ GoS X.K W c D (whL tt m fg n s), ⟨n, _, rst_fgt Z, q⟩, ?_⟩
  rintro n σ1 H1 ⟨s, Z1, q1⟩
  cases n with
  | zero => exact q1.elim
  | succ n =>
    refine ⟨c, s, Z1, (go_b Z1 q1).mono fun b q H2 k2 => ?_⟩
    have Z2 := Z1.kp k2
    cases b with
    | false => exact q σ1 H2 Z2
    | true =>
      refine ⟨fun σ' H' => ∃ s, Rst X.K c H' s σ' ∧ GoS X.K W c D (whL tt m fg n s), fun σ' H' h => ⟨n, Nat.lt_succ_self n, h⟩, c, s, Z2, ?_⟩
      rw [if_pos rfl] at q
      cases eb : m s with
      | st => rw [eb] at q; exact q
      | nx s2 => rw [eb] at q; exact fun σ' H' Z => ⟨_, rst_fgt Z, q⟩
      | ct s2 => rw [eb] at q; exact fun σ' H' Z => ⟨_, rst_fgt Z, q⟩
      | bk s2 => rw [eb] at q; exact fun σ' H' Z => q σ' H' (rst_fgt Z)
      | rt fr d s2 => rw [eb] at q; exact q
      | ex e s2 => rw [eb] at q; exact q
end
end DL
namespace DL
open PySem PySem.Spec PyProof.Rows L2
inductive ArgA (K : Fr) (P : Pd) (H : Hp) : List Bool → List V → List PyData → Prop
  | nil : ArgA K P H [] [] []
  | v {ms : List Bool} {v : V} {vs : List V} {d : PyData} {ds : List PyData} : Fz K P H v d → ArgA K P H ms vs ds → ArgA K P H (true :: ms) (v :: vs) (d :: ds)
  | b {ms : List Bool} {v : V} {vs : List V} {d : PyData} {ds : List PyData} : Br K P H v d → ArgA K P H ms vs ds → ArgA K P H (false :: ms) (v :: vs) (d :: ds)
section
variable {K : Fr} {P : Pd} {H H' : Hp}
theorem ArgA.keep0 (k : Keep P0 H H') : ∀ {ms : List Bool} {vs : List V} {ds : List PyData}, ArgA K P H ms vs ds → ArgA K P H' ms vs ds
  | _, _, _, .nil => .nil
  | _, _, _, .v a r => .v (a.keep0 k) (ArgA.keep0 k r)
  | _, _, _, .b a r => .b (a.keep0 k) (ArgA.keep0 k r)
theorem ArgA.len : ∀ {ms : List Bool} {vs : List V} {ds : List PyData}, ArgA K P H ms vs ds → vs.length = ms.length ∧ ds.length = ms.length
  | _, _, _, .nil => ⟨rfl, rfl⟩
  | _, _, _, .v _ r => ⟨congrArg (· + 1) (ArgA.len r).1, congrArg (· + 1) (ArgA.len r).2⟩
  | _, _, _, .b _ r => ⟨congrArg (· + 1) (ArgA.len r).1, congrArg (· + 1) (ArgA.len r).2⟩
theorem ArgA.append : ∀ {ms ms' : List Bool} {vs vs' : List V} {ds ds' : List PyData}, ArgA K P H ms vs ds → ArgA K P H ms' vs' ds' → ArgA K P H (ms ++ ms') (vs ++ vs') (ds ++ ds')
  | _, _, _, _, _, _, .nil, h => h
  | _, _, _, _, _, _, .v a r, h => .v a (ArgA.append r h)
  | _, _, _, _, _, _, .b a r, h => .b a (ArgA.append r h)
end
/-- a parameter's slot at the start -/
def argS : Bool → PyData → AS
  | false, .list l => .b (.list l)
  | false, .dict l => .b (.dict l)
  | _, d => .v d
def argsS : List Bool → List PyData → AE
  | m :: ms, d :: ds => argS m d :: argsS ms ds
  | _, _ => []
def st0 (n : Nat) (ms : List Bool) (ds : List PyData) : AE := argsS ms ds ++ List.replicate (n - ms.length) .un
/-- what a def's frame is measured by -/
def rc0 (K : Fr) (H : Hp) (P : Pd) : RC := ⟨H, fun _ => False, [], TabsOf K, P⟩
section
variable {K : Fr} {P : Pd} {H : Hp}
theorem argsS_len : ∀ {ms : List Bool} {vs : List V} {ds : List PyData}, ArgA K P H ms vs ds → (argsS ms ds).length = ms.length
  | _, _, _, .nil => rfl
  | _, _, _, .v _ r => congrArg (· + 1) (argsS_len r)
  | _, _, _, .b _ r => congrArg (· + 1) (argsS_len r)
theorem argS_no {m : Bool} {d d' : PyData} {k : Kd} : argS m d ≠ .o k d' := by
  unfold argS
  split <;> (intro z; cases z)
theorem argsS_get : ∀ {ms : List Bool} {vs : List V} {ds : List PyData} {i : Nat} {s : AS}, ArgA K P H ms vs ds → (argsS ms ds)[i]? = some s → ∃ m v d, s = argS m d ∧ vs[i]? = some v ∧ ((m = true ∧ Fz K P H v d) ∨ (m = false ∧ Br K P H v d))
  | _, _, _, _, _, .nil, h => by simp [argsS] at h
  | _, _, _, 0, _, .v a r, h => by simp [argsS] at h; exact ⟨true, _, _, h.symm, rfl, .inl ⟨rfl, a⟩⟩
  | _, _, _, 0, _, .b a r, h => by simp [argsS] at h; exact ⟨false, _, _, h.symm, rfl, .inr ⟨rfl, a⟩⟩
  | _, _, _, i + 1, _, .v a r, h => by
    obtain ⟨m, v, d, h1, h2, h3⟩ := argsS_get (i := i) r (by simpa [argsS] using h)
    exact ⟨m, v, d, h1, by simpa using h2, h3⟩
  | _, _, _, i + 1, _, .b a r, h => by
    obtain ⟨m, v, d, h1, h2, h3⟩ := argsS_get (i := i) r (by simpa [argsS] using h)
    exact ⟨m, v, d, h1, by simpa using h2, h3⟩
theorem br_cr {v : V} {d : PyData} (h : Br K P H v d) (hd : (∃ l, d = .list l) ∨ ∃ l, d = .dict l) : ∃ a, v = .ref a ∧ Cr K P H a d := by
  rcases h with h | ⟨a, e, h⟩
  · cases h with
    | lst r _ f => exact ⟨_, rfl, _, .inl r, .lst f⟩
    | _ => rcases hd with ⟨l, e⟩ | ⟨l, e⟩ <;> cases e
  · exact ⟨a, e, h⟩
theorem argS_v {m : Bool} {d d' : PyData} {v : V} (e : argS m d = .v d') (h : (m = true ∧ Fz K P H v d) ∨ (m = false ∧ Br K P H v d)) : Fz K P H v d' := by
  unfold argS at e
  split at e
  · cases e
  · cases e
  · rename_i h1 h2
    cases e
    rcases h with ⟨_, h⟩ | ⟨rfl, h⟩
    · exact h
    · exact br_fz h (fun l z => h1 l rfl z) (fun l z => h2 l rfl z)
theorem argS_b {m : Bool} {d d' : PyData} {v : V} (e : argS m d = .b d') (h : (m = true ∧ Fz K P H v d) ∨ (m = false ∧ Br K P H v d)) : ∃ a, v = .ref a ∧ Cr K P H a d' := by
  unfold argS at e
  split at e
  · cases e
    rcases h with ⟨z, h⟩ | ⟨_, h⟩
    · cases z
    · exact br_cr h (.inl ⟨_, rfl⟩)
  · cases e
    rcases h with ⟨z, h⟩ | ⟨_, h⟩
    · cases z
    · exact br_cr h (.inr ⟨_, rfl⟩)
  · cases e
theorem rst_start {N : List Str} {ms : List Bool} {vs : List V} {ds : List PyData} (h : ArgA K P H ms vs ds) (hn : ms.length ≤ N.length) (hP : ∀ a, P a → H a ≠ none) (ht : ∀ t ∈ TabsOf K, TabC H t) : Rst K (rc0 K H P) H (st0 N.length ms ds) (L2.start N vs) := by
  have hl := argsS_len h
  have hv := h.len.1
  have g : ∀ {i : Nat} {s : AS}, (st0 N.length ms ds)[i]? = some s → s ≠ .un → ∃ m v d, s = argS m d ∧ (L2.start N vs)[i]? = some (some v) ∧ ((m = true ∧ Fz K P H v d) ∨ (m = false ∧ Br K P H v d)) := fun {i s} e ne => by
    unfold st0 at e
    by_cases hi : i < ms.length
    · rw [List.getElem?_append_left (by rw [hl]; exact hi)] at e
      obtain ⟨m, v, d, h1, h2, h3⟩ := argsS_get h e
      refine ⟨m, v, d, h1, ?_, h3⟩
      unfold L2.start
      rw [List.getElem?_append_left (by simpa [hv] using hi), List.getElem?_map, h2]
      rfl
    · rw [List.getElem?_append_right (by rw [hl]; omega), List.getElem?_replicate] at e
      split at e
      · cases e; exact absurd rfl ne
      · cases e
  have noRt : ∀ {Q : Prop} {i : Nat} {k : Kd} {d : PyData}, (st0 N.length ms ds)[i]? = some (.o k d) → Q := fun {Q i k d} e => by
    obtain ⟨_, _, _, h1, _⟩ := g e (by intro z; cases z)
    exact absurd h1.symm argS_no
  have sub : ∀ a, Pr (rc0 K H P) (st0 N.length ms ds) (L2.start N vs) a → P a := fun a z => z.elim (fun ⟨_, _, _, e, _⟩ => noRt e) id
  refine ⟨?_, fun i d e => ?_, fun i d e => ?_, fun i k d e => noRt e, fun i j k k' d d' a e _ _ _ => noRt e, Keep.refl _ _, fun a ⟨_, _, _, e, _⟩ => noRt e, fun q hq => absurd hq List.not_mem_nil, fun i d e => noRt e, ht, hP, rfl, fun _ z => z.elim⟩
  · unfold st0 L2.start
    rw [List.length_append, hl, List.length_replicate, List.length_append, List.length_map, List.length_replicate, hv]
  · obtain ⟨m, v, d', h1, h2, h3⟩ := g e (by intro z; cases z)
    exact ⟨v, h2, (argS_v h1.symm h3).anti sub⟩
  · obtain ⟨m, v, d', h1, h2, h3⟩ := g e (by intro z; cases z)
    obtain ⟨a, rfl, o, r, co⟩ := argS_b h1.symm h3
    exact ⟨a, h2, fun ⟨_, _, _, e, _⟩ => noRt e, o, r, co.weak sub⟩
end
def OutR (K : Fr) (P : Pd) (H H' : Hp) : AV → V → Prop
  | .d false d, v => Fz K P H' v d
  | .d true d, v => ∃ p, v = .ref p ∧ H p = none ∧ Own K (fun a => P a ∨ a = p) H' p d
  | .sl _, _ => False
abbrev MF := List PyData → Rs AV
def GoF (K : Fr) (P : Pd) (H : Hp) (Q : VK) (E : XK) : Rs AV → Prop
  | .st => False
  | .ex e => ∀ H', Kp (TabsOf K) H H' → E (.ref (He.ga K e)) none H'
  | .ok av => ∀ v H', Kp (TabsOf K) H H' → OutR K P H H' av v → Q v H'
def spF (K : Fr) (ms : List Bool) (mf : MF) : Sp := fun vs H Q E => ∃ P ds, ArgA K P H ms vs ds ∧ (∀ a, P a → H a ≠ none) ∧ (∀ t ∈ TabsOf K, TabC H t) ∧ GoF K P H Q E (mf ds)
/-- what a def with this body gives -/
def mdef (n : Nat) (ms : List Bool) (m : SM) : MF := fun ds => match m (st0 n ms ds) with
  | .nx _ => .ok (dv .none)
  | .rt fr d _ => .ok (.d fr d)
  | .ex e _ => .ex e
  | _ => .st
/-- a def that may be called -/
structure DefOk (P : Program) (w : World) (K : Fr) (mg : Str → Option Value) (base : Heap) (k : Nat) (x : Str) (ms : List Bool) (dd : List PyData) (mf : MF) : Prop where
  ex : ∃ (f : Addr) (fd : FuncData) (ps : List Str), ps.length = ms.length ∧ FnOk P w K mg base (CX P w) k f fd ps (spF K ms mf) ∧ mg x = some (.ref f) ∧ PySem.W.keepIn K (.ref f) = true ∧
    ∀ j, j ≤ dd.length → ∃ (dvs : List V) (us : List Value), Vals dvs us ∧ (∀ P H, FzA K P H dvs (dd.drop j)) ∧ Binds K fd ps us
theorem DefOk.mono {P : Program} {w : World} {K : Fr} {mg : Str → Option Value} {base : Heap} {j k : Nat} {x : Str} {ms : List Bool} {dd : List PyData} {mf : MF} (h : DefOk P w K mg base j x ms dd mf) (hk : j ≤ k) : DefOk P w K mg base k x ms dd mf := by
  obtain ⟨f, fd, ps, h1, h2, h3⟩ := h.ex
  exact ⟨f, fd, ps, h1, h2.mono hk, h3⟩
/-- args by kinds -/
def tAm (K : Fr) (W : WX) (ms : List Bool) (f : AL) : TA := fun σ H Q => ∃ c σa, Rst K c H σa σ ∧ Go K W c σ H (f σa) fun ds => ∀ vs H', Kp c.tabs H H' → ArgA K (Pr c σa σ) H' ms vs ds → Q vs H'
abbrev DAm (X : Cx) (W : WX) (es : List Expr) (ms : List Bool) (f : AL) : Prop := PA X es (tAm X.K W ms f)
/-- f(..): dd: defaults that stand for what lacks -/
def eDef (mf : MF) (gs : AL) (dd : List PyData) : AE → Rs AV := fun s => (gs s).bind fun ds => mf (ds ++ dd)
section
variable {X : Cx} {W : WX} {e : Expr} {es : List Expr} {g : AE → Rs PyData} {gs : AL} {ms : List Bool} {pos p : Pos} {x : Str} {mf : MF} {dd : List PyData} {k : Nat}
theorem dam_nil : DAm X W [] [] aNil := pa_mono pa_nil fun σ H Q ⟨c, σa, Z, q⟩ => q [] H (Kp.refl Z) .nil
theorem dam_v (ha : DF X W e g) (hr : DAm X W es ms gs) (hs : starEach (e :: es) X.env = (false, eval e X.env) :: starEach es X.env := by rfl) : DAm X W (e :: es) (true :: ms) (aCons g gs) := pa_mono (pa_cons ha hr hs) fun σ H Q ⟨c, σa, Z, q⟩ =>
  ⟨c, σa, Z, (Go.bind q).mono fun d q v H1 k1 r1 => ⟨c, σa, Z.kp k1, ((Go.bind q).later k1).mono fun ds q vs H2 k2 r2 => q _ H2 (k1.trans k2) (.v (r1.keep0 k2.k) r2)⟩⟩
theorem dam_b (ha : DR X W e g) (hr : DAm X W es ms gs) (hs : starEach (e :: es) X.env = (false, eval e X.env) :: starEach es X.env := by rfl) : DAm X W (e :: es) (false :: ms) (aCons g gs) := pa_mono (pa_cons ha hr hs) fun σ H Q ⟨c, σa, Z, q⟩ =>
  ⟨c, σa, Z, (Go.bind q).mono fun d q v H1 k1 r1 => ⟨c, σa, Z.kp k1, ((Go.bind q).later k1).mono fun ds q vs H2 k2 r2 => q _ H2 (k1.trans k2) (.b (r1.keep0 k2.k) r2)⟩⟩
theorem arg_dfl {K : Fr} {P : Pd} {H : Hp} : ∀ {ms : List Bool} {vs : List V} {ds : List PyData}, ms.length = ds.length → FzA K P H vs ds → ArgA K P H ms vs ds
  | [], _, _, h, .nil => .nil
  | [], _, _, h, .cons _ _ => by simp at h
  | m :: ms, _, _, h, .nil => by simp at h
  | true :: ms, _, _, h, .cons a b => .v a (arg_dfl (by simpa using h) b)
  | false :: ms, _, _, h, .cons a b => .b (.inl a) (arg_dfl (by simpa using h) b)
theorem out_av {K : Fr} {c : RC} {H0 H H' : Hp} {σa : AE} {σ : L2.St} {av : AV} {v : V} (h : OutR K (Pr c σa σ) H H' av v) : AvR K c σa σ H H' av v := by
  match av, h with
  | .d false d, h => exact h
  | .d true d, h => exact h
/-- the whole call; j: how many defaults are written -/
theorem de_call (D : DefOk X.prog X.w X.K X.mg X.base k x (ms ++ ms') dd mf) (j : Nat) (hr : Room k X.A) (tk : Takes X W) (hg : Gl X x) (ha : DAm X W (e :: es) ms gs) (hj : j ≤ dd.length := by decide) (hl : ms'.length = (dd.drop j).length := by rfl)
    (hdb : (x == ("__debug__" : Str)) = false := by decide) (he : starEach (e :: es) X.env = (false, eval e X.env) :: starEach es X.env := by rfl) (hpl : (backTo pos (starEach es X.env)).any (·.1) = false := by rfl) :
    DE X W (.Call (.Name x p) (e :: es) [] pos) (eDef mf gs (dd.drop j)) := by
  obtain ⟨f, fd, ps, h1, F, hm, hk, hb⟩ := D.ex
  obtain ⟨dvs, us, hv, hf, hbi⟩ := hb j hj
  refine pe_mono (pe_callSD (E := WE W) F hr hg hm hk hbi hv (fun σ => passAt tk σ) ha hdb he hpl) fun σ H Q ⟨c, σa, Z, q⟩ => ⟨c, σa, Z, (Go.bind q).mono fun ds q vs H1 k1 r1 => ?_⟩
  have Z1 := Z.kp k1
  refine ⟨Pr c σa σ, ds ++ dd.drop j, r1.append (arg_dfl hl (hf _ _)), fun a z => Z1.pr z, fun t ht => Z1.tab t (by rw [Z.tabE]; exact ht), ?_⟩
  cases em : mf (ds ++ dd.drop j) with
  | st => rw [em] at q; exact q
  | ex x => rw [em] at q; exact fun H' k2 => q H' (k1.trans (by rw [Z.tabE]; exact k2))
  | ok av =>
    rw [em] at q
    intro v H' k2 r2
    exact q v H' (k1.trans (by rw [Z.tabE]; exact k2)) ((out_av (H0 := H) r2).base k1.k)
end
section
variable {P : Program} {w : World} {K : Fr} {mg : Str → Option Value} {base : Heap} {qual : Str} {params : Arguments} {body : List Stmt} {scope : Scope} {dvs : List V} {kws : List (Str × V)} {f : Addr} {fd : FuncData} {N ps : List Str} {ms : List Bool} {m : SM} {k : Nat} {x : Str}
abbrev WB (E : XK) : WX := fun cls d _ H => E cls d H
/-- a frame's context -/
abbrev cxD (P : Program) (w : World) (K : Fr) (mg : Str → Option Value) (base : Heap) (N : List Str) (qual : Str) (scope : Scope) (f : Addr) (cd : Value) (A : Around) (outer : List Env) (s : Shared) (H : Hp) (E : XK) : Cx := cxOf (CX P w) P w K mg base N qual scope f cd A outer s H E
theorem takes_D {cd : Value} {A : Around} {outer : List Env} {s : Shared} {H : Hp} {E : XK} : Takes (cxD P w K mg base N qual scope f cd A outer s H E) (WB E) := takes_of rfl rfl rfl rfl
theorem passes_D {cd : Value} {A : Around} {outer : List Env} {s : Shared} {H : Hp} {E : XK} : PassesOwn (model (cxD P w K mg base N qual scope f cd A outer s H E).prog (cxD P w K mg base N qual scope f cd A outer s H E).w) (cxD P w K mg base N qual scope f cd A outer s H E).A (cxD P w K mg base N qual scope f cd A outer s H E).env (cxD P w K mg base N qual scope f cd A outer s H E).xe := passes_of rfl
theorem fn_def {p : Str × Option Str} (F : FunD K x qual params body scope dvs kws f fd) (hf : f = He.fAd K p) (S : FnScope N ps scope) (hms : ms.length = ps.length)
    (hb : ∀ (cd : Value) (A : Around) (outer : List Env) (s : Shared) (H : Hp) (E : XK), cd = .ref (He.codeOf K p) → Room k (A.deeper (envOfC qual scope s.heap.objs.size f cd)) → DB (cxD P w K mg base N qual scope f cd A outer s H E) (WB E) body m) :
    FnOk P w K mg base (CX P w) (k + 1) f fd ps (spF K ms (mdef N.length ms m)) := by
  have hpl : ps.length ≤ N.length := by have := congrArg List.length S.pre; rw [List.length_take] at this; omega
  obtain ⟨oc, od, dV, kV, doc, pm, an, cdv, ct, osl, rfl, lk, hcd, _, _⟩ := F.ex
  have hcv : cdv = .ref (He.codeOf K p) := by
    obtain ⟨c, rfl⟩ := He.codeIn_ref hcd
    rw [hf] at lk
    rw [He.codeOf_eq lk rfl]
  refine fn_of lk hcd S (fun vs H Q E ⟨P, ds, h, _⟩ => h.len.1.trans hms) fun A outer s H vs Q E hr ⟨Pd, ds, h, hP, ht, q⟩ => ⟨_, hb cdv A outer s H E hcv hr, rc0 K H Pd, _, rst_start h (by rw [hms]; exact hpl) hP ht, ?_⟩
  unfold mdef at q
  cases e : m (st0 N.length ms ds) with
  | st => rw [e] at q; exact q
  | bk _ => rw [e] at q; exact q.elim
  | ct _ => rw [e] at q; exact q.elim
  | nx s => rw [e] at q; exact fun σ' H' Z => q .non H' ⟨Keep.imp Z.keep (fun _ z => z), Z.tab⟩ (show Fz _ _ _ _ _ from .non)
  | ex e s => rw [e] at q; exact fun σ' H' Z => q H' ⟨Keep.imp Z.keep (fun _ z => z), Z.tab⟩
  | rt fr d s =>
    rw [e] at q
    intro v σ' H' Z r
    refine q v H' ⟨Keep.imp Z.keep (fun _ z => z), Z.tab⟩ ?_
    cases fr with
    | false => exact r
    | true =>
      obtain ⟨p, e1, h1, _, o⟩ := r
      exact ⟨p, e1, h1.elim (fun z => z.elim) id, o⟩
end
def sRaise (x : Str) : SM := fun s => .ex x s
section
variable {X : Cx} {W : WX} {pos p p2 p3 : Pos} {x m : Str} {j : Nat}
theorem ds_raise (hc : X.calm = true) (tk : Takes X W) (F : (He.Fa.exc x).ok X.K = true) (gC : X.mg x = some (.ref (He.ga X.K x))) (hg : Gl X x) (hdb : (x == ("__debug__" : Str)) = false := by decide) :
    DS X W (.Raise (some (.Call (.Name x p) [.Constant (.str m) j p2] [] p3)) none pos) (sRaise x) := by
  obtain ⟨q1, q2⟩ := Bool.and_eq_true_iff.mp (show (_ && _) = true from F)
  obtain ⟨q2, q3⟩ := Bool.and_eq_true_iff.mp q2
  obtain ⟨q3, q4⟩ := Bool.and_eq_true_iff.mp q3
  exact ps_mono (ps_raise hc tk (pmk_own PySem.F.excBase_ValueError q1 gC q2 (raises_own (of_decide_eq_true q3) (of_decide_eq_true q4)) hg hdb)) fun D σ H ⟨c, σa, Z, q⟩ => q σ H Z
end
/-- does the clause catch? -/
abbrev Cat := Str → Option Bool
def sTry (ct : Cat) (m h : SM) : SM := fun s => match m s with
  | .ex e s' => match ct e with
    | some true => h s'
    | some false => .ex e s'
    | none => .st
  | r => r
section
variable {X : Cx} {W : WX} {x : Str} {c : Value} {body suite : List Stmt} {b₀ : Stmt} {np pos pos' : Pos} {m h : SM} {ct : Cat}
theorem ds_try (hs : X.stack = X.env :: X.outer) (hf : X.env.frame = some X.env.locals) (hc : Names X x c) (tk : Takes X W) (hct : ∀ e b, ct e = some b → PySem.W.exmOne X.K (.ref (He.ga X.K e)) c = some b)
    (hb : ∀ (W : WX) (pn : List (Addr × Obj)) (xe : Value → Shared → Prop), Takes (X.tr pn xe) W → PassesOwn (model X.prog X.w) X.A X.env xe → DB (X.tr pn xe) W body m)
    (hsu : ∀ (a : Addr) (oe : Obj) (cls : Value) (d : Option Addr) (pn : List (Addr × Obj)), Zc cls d oe → (∃ vs, oe.data = .fields vs) → DB (X.suite a ((a, oe) :: pn)) W (b₀ :: suite) h) :
    DS X W (.Try body [.ExceptHandler (some (.Name x np)) none (b₀ :: suite) pos'] [] [] pos) (sTry ct m h) :=
  ps_mono (ps_try_only (tb := fun W => tS X.K W m) (ts := fun _ _ _ => tS X.K W h) (Wout := W) hs hf hc tk hb hsu) fun D σ H ⟨c', σa, Z, q⟩ => ⟨c', σa, Z, by
  unfold sTry at q
  cases e : m σa with
  | ex x s =>
    rw [e] at q
    intro σ' H' Z'
    simp only at q
    cases ec : ct x with
    | none => rw [ec] at q; exact q.elim
    | some b =>
      rw [ec] at q
      refine ⟨b, hct x b ec, fun hb => ?_, fun hb => ?_⟩
      · subst hb; exact fun a _ => ⟨c', s, Z', q⟩
      · subst hb; exact q σ' H' Z'
  | _ => rw [e] at q; exact q⟩
end
end DL
namespace DL
open PySem PySem.Spec PyProof.Rows L2
def typeD : PyData → String
  | .none => "NoneType"
  | .bool _ => "bool"
  | .int _ => "int"
  | .str _ => "str"
  | .list _ => "list"
  | .tuple _ => "tuple"
  | .dict _ => "dict"
/-- is a value of type t one of type T? -/
def isiN (T t : String) : Bool := T == t || (T == "int" && t == "bool")
def isiD (T : String) (d : PyData) : Option AV := match d with
  | .dict _ => none
  | d => some (dv (.bool (isiN T (typeD d))))
/-- the types that are asked for -/
def okT (T : String) : Bool := T == "int" || T == "bool" || T == "str" || T == "tuple" || T == "list" || T == "dict"
theorem kit_ok {T : String} (h : okT T = true) (d : PyData) : kitB (typeD d) T = some (isiN T (typeD d)) := by
  have h : T = "int" ∨ T = "bool" ∨ T = "str" ∨ T = "tuple" ∨ T = "list" ∨ T = "dict" := by
    simpa [okT, or_assoc] using h
  have ht : typeD d = "NoneType" ∨ typeD d = "bool" ∨ typeD d = "int" ∨ typeD d = "str" ∨ typeD d = "list" ∨ typeD d = "tuple" ∨ typeD d = "dict" := by
    cases d <;> simp [typeD]
  generalize typeD d = t at ht
  rcases h with h | h | h | h | h | h <;> subst h <;> rcases ht with h | h | h | h | h | h | h <;> subst h <;> decide +kernel
theorem br_tyx {K : Fr} {P : Pd} {H : Hp} {v : V} {d : PyData} (h : Br K P H v d) (n : ∀ l, d ≠ .dict l) : TyX K H v (.type (typeD d)) := by
  cases d with
  | none => cases br_none h; exact .base .non
  | bool b => cases br_bool h; exact .base (.bl b)
  | int i => cases br_int h; exact .base (.int i)
  | str x => obtain ⟨rfl, _⟩ := br_str h; exact .base (.str x)
  | list l =>
    obtain ⟨a, xs, rfl, r, _⟩ := br_lst h
    exact .base (.lst r)
  | tuple l =>
    obtain ⟨a, xs, rfl, r, _⟩ := br_tup h
    rcases r with r | ⟨o, its, n, e, ec, _⟩
    · rcases r with r | ⟨ob, r⟩
      · exact .base (.tup r)
      · exact .fTuple r
    · exact .kTuple e ec
  | dict l => exact absurd rfl (n l)
section
variable {X : Cx} {W : WX} {e a b : Expr} {es : List Expr} {f fa fb : AE → Rs AV} {g ga gb : AE → Rs PyData} {gs : AL} {pos p p2 : Pos} {x : PySem.Str}
/-- T, a built-in type, as a value -/
theorem pe_ty {T : String} (hg : Gl X x) (hm : X.mg x = none) (hv : bootBuiltins x = some (.type T)) (hn : x ≠ "__name__" := by decide) (hd : (x == ("__debug__" : PySem.Str)) = false := by decide) : PE X (.Name x pos) (tC (.ty T)) := pe_bltn hg hm hv rfl hn hd
theorem de_isi {T : String} (hi : Gl X "isinstance") (hmi : X.mg "isinstance" = none) (hg : Gl X x) (hm : X.mg x = none) (hv : bootBuiltins x = some (.type T)) (ha : DR X W a ga) (hT : okT T = true := by decide) (hn : x ≠ "__name__" := by decide) (hd : (x == ("__debug__" : PySem.Str)) = false := by decide)
    (he : starEach [a, .Name x p] X.env = (false, eval a X.env) :: starEach [.Name x p] X.env := by rfl) (he2 : starEach [.Name x p] X.env = (false, eval (.Name x p) X.env) :: starEach [] X.env := by rfl) (hpl : (backTo pos (starEach [.Name x p] X.env)).any (·.1) = false := by rfl) :
    DE X W (.Call (.Name "isinstance" p2) [a, .Name x p] [] pos) (eU (isiD T) ga) :=
  pe_mono (pe_callB call_isi hi hmi boot_isinstance (pa_cons ha (pa_cons (pe_ty hg hm hv hn hd) pa_nil he2) he) (he := he) (hpl := hpl)) fun σ H Q ⟨c, σa, Z, q⟩ => ⟨c, σa, Z, (Go.bind q).mono fun d q v H1 k1 r1 => by
  obtain ⟨av, ev, q⟩ := go_of q
  unfold isiD at ev
  split at ev
  · cases ev
  · rename_i hd
    cases ev
    exact ⟨v, _, _, _, _, rfl, .ty T, br_tyx r1 hd, kit_ty (kit_ok hT d), q _ H1 k1 (show Fz _ _ _ _ _ from .bl _)⟩⟩
def absD : List PyData → Option AV
  | [.int i] => some (dv (.int (if i < 0 then -i else i)))
  | _ => none
def max2D : List PyData → Option AV
  | [.int i, .int j] => some (dv (.int (if j > i then j else i)))
  | _ => none
def min2D : List PyData → Option AV
  | [.int i, .int j] => some (dv (.int (if j < i then j else i)))
  | _ => none
def intD : List PyData → Option AV
  | [.int i] => some (dv (.int i))
  | [.bool b] => some (dv (.int (if b then 1 else 0)))
  | _ => none
theorem de_abs (hg : Gl X "abs") (hm : X.mg "abs" = none) (ha : DAr X W [e] gs) (he : starEach [e] X.env = (false, eval e X.env) :: starEach [] X.env := by rfl) : DE X W (.Call (.Name "abs" p) [e] [] pos) (eCall absD gs) := de_callB call_abs (fun c σa σ H vs ds av Q Z h ev q => by
  unfold absD at ev
  split at ev <;> cases ev
  obtain ⟨v, rfl, hb⟩ := brA1 h
  cases br_int hb
  exact ⟨_, rfl, fin_v Z q (.int _)⟩) hg hm boot_abs ha (he := he)
theorem de_max2 (hc : X.calm = true) (hg : Gl X "max") (hm : X.mg "max" = none) (ha : DAr X W [a, b] gs) (he : starEach [a, b] X.env = (false, eval a X.env) :: starEach [b] X.env := by rfl) (hpl : (backTo pos (starEach [b] X.env)).any (·.1) = false := by rfl) : DE X W (.Call (.Name "max" p) [a, b] [] pos) (eCall max2D gs) := de_callB (call_max2 hc) (fun c σa σ H vs ds av Q Z h ev q => by
  unfold max2D at ev
  split at ev <;> cases ev
  obtain ⟨v, w, rfl, hb, hb2⟩ := brA2 h
  cases br_int hb; cases br_int hb2
  exact ⟨_, _, rfl, fin_v Z q (.int _)⟩) hg hm boot_max ha (he := he) (hpl := hpl)
theorem de_min2 (hc : X.calm = true) (hg : Gl X "min") (hm : X.mg "min" = none) (ha : DAr X W [a, b] gs) (he : starEach [a, b] X.env = (false, eval a X.env) :: starEach [b] X.env := by rfl) (hpl : (backTo pos (starEach [b] X.env)).any (·.1) = false := by rfl) : DE X W (.Call (.Name "min" p) [a, b] [] pos) (eCall min2D gs) := de_callB (call_min2 hc) (fun c σa σ H vs ds av Q Z h ev q => by
  unfold min2D at ev
  split at ev <;> cases ev
  obtain ⟨v, w, rfl, hb, hb2⟩ := brA2 h
  cases br_int hb; cases br_int hb2
  exact ⟨_, _, rfl, fin_v Z q (.int _)⟩) hg hm boot_min ha (he := he) (hpl := hpl)
theorem de_int1 (hg : Gl X "int") (hm : X.mg "int" = none) (ha : DAr X W [e] gs) (he : starEach [e] X.env = (false, eval e X.env) :: starEach [] X.env := by rfl) : DE X W (.Call (.Name "int" p) [e] [] pos) (eCall intD gs) := de_callTy call_int1 (fun c σa σ H vs ds av Q Z h ev q => by
  unfold intD at ev
  split at ev <;> cases ev
  · obtain ⟨v, rfl, hb⟩ := brA1 h
    cases br_int hb
    exact .inl ⟨_, rfl, fin_v Z q (.int _)⟩
  · obtain ⟨v, rfl, hb⟩ := brA1 h
    cases br_bool hb
    exact .inr ⟨_, rfl, fin_v Z q (.int _)⟩) hg hm PyProof.Rows.boot_int ha (he := he)
end
end DL
namespace DL
open PySem PySem.Spec PyProof.Rows L2
/-- a comparison gives f, as a value and as a test -/
def DC (X : Cx) (W : WX) (e : Expr) (f : AE → Rs AV) : Prop := ∃ t : TE, PE X e t ∧ PT X e (tTest t) ∧ ∀ σ H Q, tD X.K W f σ H Q → t σ H Q
/-- a value as a test, a Bool -/
def sV (f : AE → Rs AV) : AE → Rs Bool := fun s => (f s).bind fun av => match av with
  | .d false (.bool b) => .ok b
  | _ => .st
section
variable {X : Cx} {W : WX} {e a b c : Expr} {f : AE → Rs AV} {ga gb gc : AE → Rs PyData} {pos : Pos}
theorem dc_e (h : DC X W e f) : DE X W e f := let ⟨_, h1, _, h3⟩ := h; pe_mono h1 h3
theorem dc_t (h : DC X W e f) : DT X W e (sV f) := let ⟨_, _, h2, h3⟩ := h; pt_mono h2 fun σ H Q ⟨c, σa, Z, q⟩ => h3 σ H _ ⟨c, σa, Z, (Go.bind q).mono fun av q v H' k r => by
  match av, q, r with
  | .d false (.bool b), q, r =>
    have r : Fz _ _ _ _ _ := r
    cases r
    exact ⟨b, rfl, q H' k⟩⟩
theorem dc_cmp {o : CmpOp} {op : PyData → PyData → Option AV} {r : R2} (ho : OpR X (compareOp o) r) (hs : B2 X.K op r) (hm : behindInMarks o b = false) (ha : DR X W a ga) (hb : DR X W b gb) : DC X W (.Compare a [o] [b] pos) (eB op ga gb) :=
  ⟨_, pe_cmpR ho ha hb hm, pt_cmpR ho ha hb hm, fun _ _ _ => tB2 hs⟩
theorem dc_eq {k : Nat} (hr : Room k X.A) (ha : DR X W a ga) (hb : DR X W b gb) : DC X W (.Compare a [.Eq] [b] pos) (eB eqD ga gb) := dc_cmp (op_eqD hr.units) b2_eq (nobehind b (by decide) (by decide)) ha hb
theorem dc_ne {k : Nat} (hr : Room k X.A) (ha : DR X W a ga) (hb : DR X W b gb) : DC X W (.Compare a [.NotEq] [b] pos) (eB neD ga gb) := dc_cmp (op_neD hr.units) b2_ne (nobehind b (by decide) (by decide)) ha hb
theorem dc_lt (ha : DR X W a ga) (hb : DR X W b gb) : DC X W (.Compare a [.Lt] [b] pos) (eB ltD ga gb) := dc_cmp or_lt b2_lt (nobehind b (by decide) (by decide)) ha hb
theorem dc_le (ha : DR X W a ga) (hb : DR X W b gb) : DC X W (.Compare a [.LtE] [b] pos) (eB leD ga gb) := dc_cmp or_le b2_le (nobehind b (by decide) (by decide)) ha hb
theorem dc_gt (ha : DR X W a ga) (hb : DR X W b gb) : DC X W (.Compare a [.Gt] [b] pos) (eB gtD ga gb) := dc_cmp or_gt b2_gt (nobehind b (by decide) (by decide)) ha hb
theorem dc_ge (ha : DR X W a ga) (hb : DR X W b gb) : DC X W (.Compare a [.GtE] [b] pos) (eB geD ga gb) := dc_cmp or_ge b2_ge (nobehind b (by decide) (by decide)) ha hb
theorem dc_in {k : Nat} (hr : Room k X.A) (hm : behindInMarks .In b = false) (ha : DR X W a ga) (hb : DR X W b gb) : DC X W (.Compare a [.In] [b] pos) (eB inD ga gb) := dc_cmp (op_inA hr) b2_in hm ha hb
theorem dc_nin {k : Nat} (hr : Room k X.A) (hm : behindInMarks .NotIn b = false) (ha : DR X W a ga) (hb : DR X W b gb) : DC X W (.Compare a [.NotIn] [b] pos) (eB ninD ga gb) := dc_cmp (op_ninA hr) b2_nin hm ha hb
end
section
variable {X : Cx} {W : WX} {e a b c : Expr} {f : AE → Rs AV} {ga gb gc : AE → Rs PyData} {pos : Pos}
theorem dc_is (ha : DR X W a ga) (hb : DR X W b gb) : DC X W (.Compare a [.Is] [b] pos) (eB isD ga gb) := dc_cmp op_isN b2_is (nobehind b (by decide) (by decide)) ha hb
theorem dc_isnt (ha : DR X W a ga) (hb : DR X W b gb) : DC X W (.Compare a [.IsNot] [b] pos) (eB isntD ga gb) := dc_cmp op_notN b2_isnt (nobehind b (by decide) (by decide)) ha hb
theorem dc_chain {o o' : CmpOp} {op op' : PyData → PyData → Option AV} {r r' : R2} (ho : OpR X (compareOp o) r) (ho' : OpR X (compareOp o') r') (h1 : B2 X.K op r) (h2 : B2 X.K op' r') (ha : DR X W a ga) (hb : DR X W b gb) (hc : DR X W c gc) (hm : lastMarks [o, o'] [b, c] = false := by with_unfolding_all rfl) :
    DC X W (.Compare a [o, o'] [b, c] pos) (eCh op op' ga gb gc) := ⟨_, pe_chain ho ho' ha hb hc hm, pt_chain ho ho' ha hb hc hm, fun _ _ _ => tChn h1 h2⟩
end
def sameK : Option NameKind → NameKind → Bool
  | some .local, .local => true
  | some .cell, .cell => true
  | some .globalImplicit, .globalImplicit => true
  | _, _ => false
/-- x is the name of slot i, to be read -/
def voB (N : List Str) (sc : Scope) (i : Nat) (x : Str) : Bool := (match N[i]? with
  | some y => y == x
  | none => false) && (match sc.names.lookup x with
  | some .local => true
  | some .cell => true
  | some .free => true
  | _ => false) && (!(x == ("__debug__" : Str)) && !(x == ("__classdict__" : Str)))
structure VO (N : List Str) (sc : Scope) (i : Nat) (x : Str) : Prop where
  n : N[i]? = some x
  v : Vis sc x
  d : (x == ("__debug__" : Str)) = false
  cd : (x == ("__classdict__" : Str)) = false
theorem VO.of {N : List Str} {sc : Scope} {i : Nat} {x : Str} (h : voB N sc i x = true) : VO N sc i x := by
  unfold voB at h
  simp only [Bool.and_eq_true, Bool.not_eq_true'] at h
  obtain ⟨⟨h1, h2⟩, h3, h4⟩ := h
  refine ⟨?_, ?_, h3, h4⟩
  · split at h1
    · rename_i y e; rw [e, eq_of_beq h1]
    · cases h1
  · split at h2
    · exact .inl (by assumption)
    · exact .inr (.inl (by assumption))
    · exact .inr (.inr (by assumption))
    · cases h2
/-- .. to be written -/
def loB (N : List Str) (sc : Scope) (i : Nat) (x : Str) : Bool := (match N[i]? with
  | some y => y == x
  | none => false) && (match sc.names.lookup x with
  | some .local => true
  | some .cell => true
  | _ => false)
structure LO (N : List Str) (sc : Scope) (i : Nat) (x : Str) : Prop where
  n : N[i]? = some x
  l : Loc sc x
theorem LO.of {N : List Str} {sc : Scope} {i : Nat} {x : Str} (h : loB N sc i x = true) : LO N sc i x := by
  unfold loB at h
  simp only [Bool.and_eq_true] at h
  obtain ⟨h1, h2⟩ := h
  refine ⟨?_, ?_⟩
  · split at h1
    · rename_i y e; rw [e, eq_of_beq h1]
    · cases h1
  · split at h2
    · exact .inl (by assumption)
    · exact .inr (by assumption)
    · cases h2
/-- .. a plain local -/
def soB (N : List Str) (sc : Scope) (i : Nat) (x : Str) : Bool := (match N[i]? with
  | some y => y == x
  | none => false) && (match sc.names.lookup x with
  | some .local => true
  | _ => false)
structure SO (N : List Str) (sc : Scope) (i : Nat) (x : Str) : Prop where
  n : N[i]? = some x
  l : sc.names.lookup x = some .local
theorem SO.of {N : List Str} {sc : Scope} {i : Nat} {x : Str} (h : soB N sc i x = true) : SO N sc i x := by
  unfold soB at h
  simp only [Bool.and_eq_true] at h
  obtain ⟨h1, h2⟩ := h
  refine ⟨?_, ?_⟩
  · split at h1
    · rename_i y e; rw [e, eq_of_beq h1]
    · cases h1
  · split at h2
    · assumption
    · cases h2
/-- x is a global -/
def goB (sc : Scope) (x : Str) : Bool := match sc.names.lookup x with
  | some .globalImplicit => true
  | _ => false
theorem go_sc {sc : Scope} {x : Str} (h : goB sc x = true) : sc.names.lookup x = some .globalImplicit := by
  unfold goB at h
  split at h
  · assumption
  · cases h
/-- a def's scope -/
def fsB (N P : List Str) (sc : Scope) : Bool := decide (sc.kind = .function) && !sc.isCoroutine && !sc.isGenerator && decide N.Nodup && decide (N.take P.length = P) && (P.all fun x => match sc.names.lookup x with
  | some .local => true
  | some .cell => true
  | _ => false) && (sc.names.all fun y => match y.2 with
  | .free => false
  | _ => true)
theorem FnScope.ofB {N P : List Str} {sc : Scope} (h : fsB N P sc = true) : FnScope N P sc := by
  unfold fsB at h
  simp only [Bool.and_eq_true, Bool.not_eq_true', decide_eq_true_eq] at h
  obtain ⟨⟨⟨⟨⟨⟨h1, h2⟩, h3⟩, h4⟩, h5⟩, h6⟩, h7⟩ := h
  refine ⟨h1, h2, h3, h4, h5, fun x hx => ?_, fun y hy z => ?_⟩
  · have := List.all_eq_true.mp h6 x hx
    split at this
    · exact .inl (by assumption)
    · exact .inr (by assumption)
    · cases this
  · have := List.all_eq_true.mp h7 y hy
    rw [z] at this
    cases this
section
variable {X : Cx} {W : WX} {e : Expr} {f : AE → Rs AV} {g : AE → Rs PyData} {pos pos' : Pos} {i : Nat} {x : Str}
theorem de_n (h : VO X.N X.env.scope i x) : DE X W (.Name x pos) (eV i) := de_v i h.n h.v h.d h.cd
theorem dg_n (hN : X.N.Nodup) (h : LO X.N X.env.scope i x) (hf : X.fn x = true ∨ X.env.scope.names.lookup x = some .local := by first | exact .inl rfl | exact .inr rfl | exact .inl (by kernel_rfl) | exact .inr (by kernel_rfl)) : DG X (.Name x pos) (tN i) [i] := dg_name hN h.n h.l hf
theorem ds_st (hN : X.N.Nodup) (v : LO X.N X.env.scope i x) (h : DE X W e f) (hs : swapsWith e (some (.Name x pos')) pos.line X.env = pure false := by rfl) (hf : X.fn x = true ∨ X.env.scope.names.lookup x = some .local := by first | exact .inl rfl | exact .inr rfl) : DS X W (.Assign [.Name x pos'] e pos) (sSet i f) := ds_set hN h v.n v.l hs hf
end
end DL
namespace DL
open PySem PySem.Spec PyProof.Rows L2
/-- what the law promises -/
def spLaw (K : Fr) : Sp := fun vs H Q _ => ∃ (a : Addr) (ns : List Int), vs = [.ref a] ∧ SqL K H a (ns.map V.int) ∧ (∀ t ∈ TabsOf K, TabC H t) ∧ ∀ H', Q (.bl true) H'
/-- the state behind the first statement -/
def stL (n : Nat) (l : List PyData) : AE := (List.replicate n AS.un).set 1 (.o .ow (.list l))
theorem rst_law {K : Fr} {H : Hp} {N : List Str} {v : V} (hn : 1 ≤ N.length) (ht : ∀ t ∈ TabsOf K, TabC H t) : Rst K (rc0 K H fun _ => False) H (List.replicate N.length .un) (L2.start N [v]) := by
  have no : ∀ {Q : Prop} {i : Nat} {s : AS}, (List.replicate N.length AS.un)[i]? = some s → s ≠ .un → Q := fun {Q i s} e n => by
    rw [List.getElem?_replicate] at e
    split at e
    · cases e; exact absurd rfl n
    · cases e
  refine ⟨?_, fun i d e => no e (by intro z; cases z), fun i d e => no e (by intro z; cases z), fun i k d e => no e (by intro z; cases z), fun i j k k' d d' a e _ _ _ => no e (by intro z; cases z), Keep.refl _ _, fun a ⟨_, _, _, e, _⟩ => no e (by intro z; cases z),
    fun q hq => absurd hq List.not_mem_nil, fun i d e => no e (by intro z; cases z), ht, fun a z => z.elim, rfl, fun _ z => z.elim⟩
  unfold L2.start
  rw [List.length_replicate, List.length_append, List.length_map, List.length_replicate, List.length_singleton]
  omega
section
variable {P : Program} {w : World} {K : Fr} {mg : Str → Option Value} {base : Heap} {qual : Str} {params : Arguments} {scope : Scope} {dvs : List V} {kws : List (Str × V)} {f fC : Addr} {fd fdC : FuncData} {N : List Str} {m : SM} {k kd : Nat} {Kd : Int} {rest : List Stmt} {md : MF} {j1 j2 : Nat} {p1 p2 p3 p4 p5 p6 p7 p8 pos : Pos}
theorem fn_law {p : Str × Option Str} (hf : f = He.fAd K p) (F : FunD K "law" qual params (.Assign [.Name "n" p1] (.Call (.Name "_law_draws" p2) [.Call (.Name "_law_cell" p3) [.Name "script" p4, .Constant (.int 0) j1 p5] [] p6, .Constant (.int Kd) j2 p7] [] p8) pos :: rest) scope dvs kws f fd)
    (S : FnScope N ["script"] scope) (v0 : VO N scope 0 "script") (v1 : LO N scope 1 "n") (gC : goB scope "_law_cell" = true) (gD : goB scope "_law_draws" = true)
    (FC : FnOk P w K mg base (CX P w) 1 fC fdC ["script", "k"] (spCell K)) (mC : mg "_law_cell" = some (.ref fC)) (kC : PySem.W.keepIn K (.ref fC) = true) (bC : Binds K fdC ["script", "k"] [])
    (D : DefOk P w K mg base kd "_law_draws" [false, false] [] md) (hk : kd ≤ k) (h1k : 1 ≤ k)
    (hb : ∀ (cd : Value) (A : Around) (outer : List Env) (s : Shared) (H : Hp) (E : XK), cd = .ref (He.codeOf K p) → Room k (A.deeper (envOfC qual scope s.heap.objs.size f cd)) → DB (cxD P w K mg base N qual scope f cd A outer s H E) (WB E) rest m)
    (hlaw : ∀ x : Int, ∃ l s', md [.int x, .int Kd] = .ok (.d true (.list l)) ∧ m (stL N.length l) = .rt false (.bool true) s') :
    FnOk P w K mg base (CX P w) (k + 1) f fd ["script"] (spLaw K) := by
  have hN1 : 1 < N.length := (List.getElem?_eq_some_iff.mp v1.n).1
  obtain ⟨oc0, od0, dV0, kV0, doc0, pm0, an0, cd, ct0, osl0, rfl, lk, hcd, _, _⟩ := F.ex
  have hcv : cd = .ref (He.codeOf K p) := by
    obtain ⟨c, rfl⟩ := He.codeIn_ref hcd
    rw [hf] at lk
    rw [He.codeOf_eq lk rfl]
  refine fn_of lk hcd S (fun vs H Q E ⟨a, ns, e, _⟩ => by rw [e]; rfl) fun A outer s H vs Q E hr ⟨a, ns, ev, hs, ht, hQ⟩ => ?_
  subst ev
  obtain ⟨fD, fdD, psD, hpl, FD, mD, kD, bD⟩ := D.ex
  obtain ⟨dv0, us0, hv0, hf0, b0⟩ := bD 0 (Nat.le_refl _)
  have e0 : dv0 = [] := by
    have h0 : FzA K P0 H dv0 [] := hf0 P0 H
    cases h0
    rfl
  subst e0
  have tk := takes_D (P := P) (w := w) (K := K) (mg := mg) (base := base) (N := N) (qual := qual) (scope := scope) (f := f) (cd := cd) (A := A) (outer := outer) (s := s) (H := H) (E := E)
  have hrC : Room 1 (cxD P w K mg base N qual scope f cd A outer s H E).A := hr.mono h1k
  have hrD : Room kd (cxD P w K mg base N qual scope f cd A outer s H E).A := hr.mono hk
  have pC : PE (cxD P w K mg base N qual scope f cd A outer s H E) (.Call (.Name "_law_cell" p3) [.Name "script" p4, .Constant (.int 0) j1 p5] [] p6) _ := pe_callSD (E := WE (WB E)) FC hrC (go_sc gC) mC kC bC .nil (fun σ => passAt tk σ) (pa_cons (pe_var v0.n v0.v v0.d v0.cd) (pa_cons pe_int pa_nil))
  have pD : PE (cxD P w K mg base N qual scope f cd A outer s H E) (.Call (.Name "_law_draws" p2) [.Call (.Name "_law_cell" p3) [.Name "script" p4, .Constant (.int 0) j1 p5] [] p6, .Constant (.int Kd) j2 p7] [] p8) _ := pe_callSD (E := WE (WB E)) FD hrD (go_sc gD) mD kD b0 hv0 (fun σ => passAt tk σ) (pa_cons pC (pa_cons pe_int pa_nil))
  refine ⟨_, pss_cons (ps_set S.nd v1.n v1.l pD rfl (.inl rfl)) (hb cd A outer s H E hcv hr), ?_⟩
  obtain ⟨l, s', e1, e2⟩ := hlaw (cellOf ns 0)
  have Z0 := rst_law (K := K) (H := H) (N := N) (v := .ref a) (Nat.le_of_lt hN1) ht
  have s0 : (L2.start N [V.ref a])[0]? = some (some (V.ref a)) := rfl
  refine ⟨_, s0, a, ns, 0, rfl, hs, fun _ => False, [.int (cellOf ns 0), .int Kd], .b (.inl (.int _)) (.b (.inl (.int _)) .nil), fun _ z => z.elim, ht, ?_⟩
  rw [e1]
  intro v H' kp r
  obtain ⟨p, rfl, hp, ho⟩ := (show ∃ p, v = .ref p ∧ H p = none ∧ Own K (fun a => False ∨ a = p) H' p (.list l) from r)
  refine ⟨rc0 K H fun _ => False, stL N.length l, rst_own Z0 kp ?_ hp ?_, ?_⟩
  · unfold asg
    rw [List.getElem?_replicate, if_pos hN1]
  · obtain ⟨o, eo, co⟩ := ho
    refine ⟨o, eo, co.weak fun b z => z.elim (fun z => .inl ?_) .inr⟩
    rcases z with ⟨_, _, _, e, _⟩ | z
    · rw [List.getElem?_replicate] at e
      split at e <;> cases e
    · exact z
  · rw [e2]
    exact fun v σ H Z r => by
      have r : Fz _ _ _ _ _ := r
      cases r
      exact hQ H
end
/-- the cell's def -/
theorem ok_cell {P : Program} {w : World} {K : Fr} {mg : Str → Option Value} {base : Heap} {f : Addr} {fd : FuncData} {pa : Arguments} {sc : Scope} {kws : List (Str × V)} {q1 q2 q3 q4 q5 q6 q7 q8 q9 q10 q11 q12 : Pos} {k0 : Nat}
    (F : FunD K "_law_cell" "_law_cell" pa (cellBody q1 q2 q3 q4 q5 q6 q7 q8 q9 q10 q11 q12 k0) sc [] kws f fd) (S : FnScope ["script", "k"] ["script", "k"] sc) (hl : goB sc "len" = true) (mL : mg "len" = none) : FnOk P w K mg base (CX P w) 1 f fd ["script", "k"] (spCell K) := by
  refine F.ok S (fun vs H Q E h => ?_) fun cdv A outer s H vs Q E hr h => ⟨tCell K, ?_, cell_run h⟩
  · obtain ⟨l, ns, j, rfl, _⟩ := h
    rfl
  · exact pss_cell rfl rfl (vis_par S List.mem_cons_self) (vis_par S (List.mem_cons_of_mem _ List.mem_cons_self)) (go_sc hl) mL
theorem triples_nil {H : Hp} : TriplesOk (#[] : Array Value).toList ∧ ∀ (pos : Pos) (cv : Value), codeAmong pos (#[] : Array Value).toList = some cv → ∃ (c : Addr) (q : PySem.Str), cv = .ref c ∧ H c = some (LamX.CodeO c q) := by
  refine ⟨?_, fun pos cv h => ?_⟩
  · show TriplesOk []
    unfold TriplesOk
    trivial
  · have h : codeAmong pos [] = some cv := h
    simp [codeAmong] at h
end DL
namespace DL
open PySem PySem.Spec PyProof.Rows L2
section
variable {K : Fr} {c : RC} {H Hb : Hp} {σa σa' : AE} {σ σ' : L2.St} {F : Pd}
/-- a slot's new content -/
def NewS (K : Fr) (c : RC) (σa : AE) (σ : L2.St) (H : Hp) (F : Pd) (s : AS) (v : V) : Prop := (∃ x, s = .v x ∧ Fz K (fun a => Pr c σa σ a ∨ F a) H v x) ∨ ∃ x p, s = .o .ow x ∧ v = .ref p ∧ F p ∧ Own K (fun a => Pr c σa σ a ∨ F a) H p x
theorem rst_gen (Z : Rst K c Hb σa σ) (kp : Kp c.tabs Hb H) (hF : ∀ a, F a → Hb a = none) (len : σa'.length = σ'.length)
    (h : ∀ (j : Nat) (s : AS), σa'[j]? = some s → (σa[j]? = some s ∧ σ'[j]? = σ[j]?) ∨ s = .un ∨ ∃ v, σ'[j]? = some (some v) ∧ NewS K c σa σ H F s v)
    (hi : ∀ (i j : Nat) (x y : PyData) (p : Addr), F p → σa'[i]? = some (.o .ow x) → σa'[j]? = some (.o .ow y) → σ'[i]? = some (some (.ref p)) → σ'[j]? = some (some (.ref p)) → i = j)
    (hp : ∀ q ∈ c.pins, σa'[q.1]? = σa[q.1]? ∧ σ'[q.1]? = σ[q.1]?) : Rst K c H σa' σ' := by
  have sub : ∀ a, Rt σa' σ' a → Rt σa σ a ∨ F a := fun a ⟨j, k, d, h1, h2⟩ => by
    rcases h j _ h1 with ⟨h3, h4⟩ | z | ⟨v, hv, ⟨x, e, _⟩ | ⟨x, p, e, ev, hf, _⟩⟩
    · exact .inl ⟨j, k, d, h3, h4 ▸ h2⟩
    · cases z
    · cases e
    · rw [h2] at hv; cases hv; cases ev; exact .inr hf
  have sub2 : ∀ a, Rt σa' σ' a → Rt σa σ a ∨ Hb a = none := fun a z => (sub a z).imp id (hF a)
  have sub3 : ∀ a, Pr c σa' σ' a → Pr c σa σ a ∨ F a := fun a z => z.elim (fun z => (sub a z).imp .inl id) fun z => .inl (.inr z)
  have old : ∀ {i : Nat} {k : Kd} {d : PyData} {a : Addr}, σa'[i]? = some (.o k d) → σ'[i]? = some (some (V.ref a)) → (F a ∧ k = .ow) ∨ (¬ F a ∧ σa[i]? = some (.o k d) ∧ σ[i]? = some (some (V.ref a))) := fun {i k d a} h1 h2 => by
    rcases h i _ h1 with ⟨h3, h4⟩ | z | ⟨v, hv, ⟨x, e, _⟩ | ⟨x, p, e, ev, hf, _⟩⟩
    · refine .inr ⟨fun z => Z.rt ⟨i, k, d, h3, h4 ▸ h2⟩ (hF a z), h3, h4 ▸ h2⟩
    · cases z
    · cases e
    · rw [h2] at hv; cases hv; cases ev; cases e; exact .inl ⟨hf, rfl⟩
  refine ⟨len, fun j d e => ?_, fun j d e => ?_, fun j k d e => ?_, fun i j k1 k2 d1 d2 a h1 h2 h3 h4 => ?_, Z.keep.tr0 kp.k, fun a ⟨j, k, d, h1, hk, h2⟩ => ?_, fun q hq => ?_, fun j d e => ?_, kp.t, Z.oldT, Z.tabE, Z.ino⟩
  · rcases h j _ e with ⟨h3, h4⟩ | z | ⟨v, hv, ⟨x, e, f⟩ | ⟨x, p, e, ev, hf, _⟩⟩
    · obtain ⟨u, h1, h2⟩ := Z.val j d h3
      exact ⟨u, h4.trans h1, h2.mono kp.k.any (pr_or sub2)⟩
    · cases z
    · cases e; exact ⟨v, hv, f.anti sub3⟩
    · cases e
  · rcases h j _ e with ⟨h3, h4⟩ | z | ⟨v, hv, ⟨x, e, f⟩ | ⟨x, p, e, ev, hf, _⟩⟩
    · obtain ⟨a, h1, h2, o, r, co⟩ := Z.bor j d h3
      refine ⟨a, h4.trans h1, fun z => ?_, o, r.keep kp.k (fun z => z) co.noTbl, co.mono kp.k.any (pr_or sub2)⟩
      rcases sub2 a z with z | z
      · exact h2 z
      · exact rdThere r.rd z
    · cases z
    · cases e
    · cases e
  · rcases h j _ e with ⟨h3, h4⟩ | z | ⟨v, hv, ⟨x, e, f⟩ | ⟨x, p, e, ev, hf, o, eo, co⟩⟩
    · obtain ⟨a, h1, q⟩ := Z.own j k d h3
      exact ⟨a, h4.trans h1, q.mono' kp.k (pr_or sub2)⟩
    · cases z
    · cases e
    · cases e; subst ev
      exact ⟨p, hv, show Own _ _ _ _ _ from ⟨o, eo, co.weak sub3⟩⟩
  · rcases old h1 h3 with ⟨z1, e1⟩ | ⟨n1, g1, g2⟩
    · rcases old h2 h4 with ⟨_, e2⟩ | ⟨n2, _⟩
      · subst e1 e2
        exact hi i j d1 d2 a z1 h1 h2 h3 h4
      · exact absurd z1 n2
    · rcases old h2 h4 with ⟨z2, _⟩ | ⟨_, g3, g4⟩
      · exact absurd z2 n1
      · exact Z.inj i j k1 k2 d1 d2 a g1 g3 g2 g4
  · rcases old h1 h2 with ⟨z, _⟩ | ⟨_, g1, g2⟩
    · exact .inr (Z.keep.fresh (hF a z))
    · exact Z.muta a ⟨j, k, d, g1, hk, g2⟩
  · obtain ⟨h1, k, d, h2, h3⟩ := Z.pin q hq
    obtain ⟨e1, e2⟩ := hp q hq
    exact ⟨e2.trans h1, k, d, e1.trans h2, h3⟩
  · rcases h j _ e with ⟨h3, h4⟩ | z | ⟨v, hv, ⟨x, e, f⟩ | ⟨x, p, e, ev, hf, _⟩⟩
    · exact Z.lnp j d h3
    · cases z
    · cases e
    · cases e
end
abbrev AVL := AE → Rs (List AV)
def pNil : AVL := fun _ => .ok []
def pCons (fa : AE → Rs AV) (fs : AVL) : AVL := fun s => (fa s).bind fun a => (fs s).bind fun l => .ok (a :: l)
/-- the slot that such a value makes -/
def slA : AV → Option AS
  | .d false x => some (.v x)
  | .d true x => some (.o .ow x)
  | .sl _ => none
def AvA (K : Fr) (c : RC) (σa : AE) (σ : L2.St) (H : Hp) (F : Pd) : List AV → List V → Prop
  | [], [] => True
  | av :: avs, v :: vs => (∀ s, slA av = some s → NewS K c σa σ H F s v ∧ ∀ (x : PyData) (p : Addr), s = AS.o .ow x → v = V.ref p → ∀ (j : Nat) (y : PyData), avs[j]? = some (AV.d true y) → vs[j]? ≠ some (V.ref p)) ∧ AvA K c σa σ H F avs vs
  | _, _ => False
def tPv (K : Fr) (W : WX) (f : AVL) : TA := fun σ H Q => ∃ c σa, Rst K c H σa σ ∧ Go K W c σ H (f σa) fun avs => ∀ vs H' F, Kp c.tabs H H' → (∀ a, F a → H a = none) → AvA K c σa σ H' F avs vs → Q vs H'
abbrev DPv (X : Cx) (W : WX) (es : List Expr) (f : AVL) : Prop := PA X es (tPv X.K W f)
/-- as c, from H1 on; p is not to be touched -/
def cOld (c : RC) (H1 : Hp) (σa : AE) (σ : L2.St) (p : Addr) : RC := ⟨H1, Mu σa σ, c.pins, c.tabs, fun a => c.old a ∨ a = p⟩
section
variable {K : Fr} {c : RC} {H H1 H2 : Hp} {σa : AE} {σ : L2.St} {F : Pd}
theorem rst_old {p : Addr} (Z : Rst K c H σa σ) (k : Kp c.tabs H H1) (hp : H p = none) (h1 : H1 p ≠ none) : Rst K (cOld c H1 σa σ p) H1 σa σ := by
  have sub : ∀ a, Pr (cOld c H1 σa σ p) σa σ a → Pr c σa σ a ∨ H a = none := fun a z => by
    rcases z with z | z | z
    · exact .inl (.inl z)
    · exact .inl (.inr z)
    · exact .inr (z ▸ hp)
  refine ⟨Z.len, fun j d e => ?_, fun j d e => ?_, fun j k' d e => ?_, Z.inj, Keep.refl _ _, fun a z => .inl z, Z.pin, Z.lnp, k.t, fun a z => ?_, Z.tabE, fun a z y => y.elim (Z.noOld z) fun y => Z.rt (mu_rt z) (y ▸ hp)⟩
  · obtain ⟨u, h1, h2⟩ := Z.val j d e
    exact ⟨u, h1, h2.mono k.k.any sub⟩
  · obtain ⟨a, h1, h2, o, r, co⟩ := Z.bor j d e
    exact ⟨a, h1, h2, o, r.keep k.k (fun z => z) co.noTbl, co.mono k.k.any sub⟩
  · obtain ⟨a, h1, q⟩ := Z.own j k' d e
    exact ⟨a, h1, q.mono' k.k sub⟩
  · rcases z with z | z
    · exact (Z.kp k).keep.thr a (Z.oldT a z)
    · exact z ▸ h1
theorem go_old {W : WX} {α : Type} {r : Rs α} {k : α → Prop} {p : Addr} {Ho : Hp} (h : Go K W c σ H r k) : Go K W (cOld c Ho σa σ p) σ H r k := by
  cases r with
  | st => exact h
  | ex e => exact h
  | ok a => exact h
theorem AvA.get : ∀ {avs : List AV} {vs : List V} {j : Nat} {x : PyData}, AvA K c σa σ H F avs vs → avs[j]? = some (.d true x) → ∃ p, vs[j]? = some (.ref p) ∧ F p
  | [], _, _, _, _, e => by simp at e
  | _ :: _, [], _, _, h, _ => h.elim
  | av :: avs, v :: vs, 0, x, h, e => by
    simp at e
    subst e
    obtain ⟨n, _⟩ := h.1 _ rfl
    rcases n with ⟨_, z, _⟩ | ⟨x', p, _, ev, hf, _⟩
    · cases z
    · exact ⟨p, by rw [ev]; rfl, hf⟩
  | av :: avs, v :: vs, j + 1, x, h, e => by
    obtain ⟨p, h1, h2⟩ := AvA.get (j := j) h.2 (by simpa using e)
    exact ⟨p, by simpa using h1, h2⟩
theorem AvA.conv {c' : RC} {F' : Pd} (hP : ∀ a, (Pr c' σa σ a ∨ F' a) → (Pr c σa σ a ∨ F a)) (hF : ∀ a, F a → F' a) : ∀ {avs : List AV} {vs : List V}, AvA K c σa σ H F avs vs → AvA K c' σa σ H F' avs vs
  | [], [], _ => trivial
  | [], _ :: _, h => h.elim
  | _ :: _, [], h => h.elim
  | av :: avs, v :: vs, h => ⟨fun s es => by
      obtain ⟨n, d⟩ := h.1 s es
      refine ⟨?_, d⟩
      rcases n with ⟨x, e, f⟩ | ⟨x, p, e, ev, hf, o, eo, co⟩
      · exact .inl ⟨x, e, f.anti hP⟩
      · exact .inr ⟨x, p, e, ev, hF p hf, o, eo, co.weak hP⟩, AvA.conv hP hF h.2⟩
end
section
variable {X : Cx} {W : WX} {e : Expr} {es : List Expr} {fa : AE → Rs AV} {fs : AVL}
theorem dpv_nil : DPv X W [] pNil := pa_mono pa_nil fun σ H Q ⟨c, σa, Z, q⟩ => q [] H (fun _ => False) (Kp.refl Z) (fun _ z => z.elim) trivial
theorem dpv_cons (ha : DE X W e fa) (hr : DPv X W es fs) (hs : starEach (e :: es) X.env = (false, eval e X.env) :: starEach es X.env := by rfl) : DPv X W (e :: es) (pCons fa fs) := pa_mono (pa_cons ha hr hs) fun σ H Q ⟨c, σa, Z, q⟩ => ⟨c, σa, Z, (Go.bind q).mono fun av q v H1 k1 r1 => by
  match av, r1 with
  | .sl i, _ => exact ⟨c, σa, Z.kp k1, ((Go.bind q).later k1).mono fun avs q vs H2 F k2 hF a => q (v :: vs) H2 F (k1.trans k2) (fun a z => k1.k.fresh (hF a z)) ⟨(fun s e => by cases e), a⟩⟩
  | .d false x, r1 =>
    have r1 : Fz X.K (Pr c σa σ) H1 v x := r1
    exact ⟨c, σa, Z.kp k1, ((Go.bind q).later k1).mono fun avs q vs H2 F k2 hF a => q (v :: vs) H2 F (k1.trans k2) (fun a z => k1.k.fresh (hF a z)) ⟨fun s e => by
      cases e
      exact ⟨.inl ⟨x, rfl, r1.mono k2.k.any fun b z => z.elim .inl fun z => .inr (hF b z)⟩, fun _ _ z => by cases z⟩, a⟩⟩
  | .d true x, ⟨p, ev, hp, o, eo, co⟩ =>
    subst ev
    have hp1 : H1 p ≠ none := by rw [eo]; intro z; cases z
    refine ⟨cOld c H1 σa σ p, σa, rst_old Z k1 hp hp1, Go.mono (go_old ((Go.bind q).later k1)) ?_⟩
    · intro l q vs H2 F k2 hF a
      refine q (.ref p :: vs) H2 (fun b => F b ∨ b = p) (k1.trans k2) (fun b z => z.elim (fun z => k1.k.fresh (hF b z)) fun z => z ▸ hp) ⟨fun s e => ?_, a.conv (fun b z => ?_) fun b z => .inl z⟩
      · cases e
        refine ⟨.inr ⟨x, p, rfl, rfl, .inr rfl, o, k2.k.oth p o eo (fun z => z) co.noTbl, co.mono k2.k.any fun b z => ?_⟩, fun x' p' _ e j y hj hv => ?_⟩
        · rcases z with z | z | z
          · exact .inl (.inl z)
          · exact .inr (hF b z)
          · exact .inl (.inr z)
        · cases e
          obtain ⟨p2, h2, hf⟩ := a.get hj
          rw [hv] at h2
          cases h2
          exact hp1 (hF p hf)
      · rcases z with z | z | z
        · exact .inl (z.imp id .inl)
        · exact .inr z
        · exact .inl (.inr (.inr z))⟩
end
theorem asg_set {s : AE} {i j : Nat} {x : AS} (h : asg s i = true) (hj : i ≠ j) : asg (s.set j x) i = true := by
  unfold asg at h ⊢
  rw [List.getElem?_set_ne (fun z => hj z.symm)]
  exact h
/-- several places set, one after the other -/
def setL {α : Type} : List Nat → List α → List α → List α
  | i :: is, x :: xs, s => setL is xs (s.set i x)
  | _, _, s => s
theorem setL_len {α : Type} : ∀ (is : List Nat) (xs s : List α), (setL is xs s).length = s.length
  | [], _, _ => rfl
  | _ :: _, [], _ => rfl
  | i :: is, x :: xs, s => (setL_len is xs (s.set i x)).trans List.length_set
theorem setL_ne {α : Type} {k : Nat} : ∀ (is : List Nat) (xs s : List α), k ∉ is → (setL is xs s)[k]? = s[k]?
  | [], _, _, _ => rfl
  | _ :: _, [], _, _ => rfl
  | i :: is, x :: xs, s, h => by
    show (setL is xs (s.set i x))[k]? = _
    rw [setL_ne is xs _ fun z => h (List.mem_cons_of_mem _ z), List.getElem?_set_ne (fun (z : i = k) => h (by rw [z]; exact List.mem_cons_self))]
theorem setL_at {α : Type} {k : Nat} : ∀ (is : List Nat) (xs s : List α) (t : Nat), is.Nodup → is.length = xs.length → k < s.length → is[t]? = some k → (setL is xs s)[k]? = xs[t]?
  | [], _, _, _, _, _, _, h => by simp at h
  | _ :: _, [], _, _, _, h, _, _ => by simp at h
  | i :: is, x :: xs, s, 0, nd, hl, hk, h => by
    simp at h
    subst h
    show (setL is xs (s.set i x))[i]? = _
    rw [setL_ne is xs _ (List.nodup_cons.mp nd).1, List.getElem?_set_self hk]
    rfl
  | i :: is, x :: xs, s, t + 1, nd, hl, hk, h => by
    show (setL is xs (s.set i x))[k]? = _
    rw [setL_at is xs (s.set i x) t (List.nodup_cons.mp nd).2 (by simpa using hl) (by rw [List.length_set]; exact hk) (by simpa using h)]
    simp
/-- the slots that values make -/
def slAs : List AV → Option (List AS)
  | [] => some []
  | a :: r => match slA a, slAs r with
    | some x, some xs => some (x :: xs)
    | _, _ => none
def parL (is : List Nat) (s : AE) (avs : List AV) : SR := match slAs avs with
  | some xs => if avs.length = is.length ∧ ∀ i ∈ is, asg s i = true then .nx (setL is xs s) else .st
  | none => .st
def sPar (is : List Nat) (f : AVL) : SM := fun s => sB (f s) s (parL is s)
section
variable {K : Fr} {c : RC} {H Hb : Hp} {σa : AE} {σ : L2.St} {F : Pd}
theorem ow_av {a : AV} {x : PyData} (h : slA a = some (.o .ow x)) : a = .d true x := by
  unfold slA at h
  split at h <;> cases h
  rfl
theorem slAs_cons {a : AV} {r : List AV} {xs : List AS} (h : slAs (a :: r) = some xs) : ∃ y ys, xs = y :: ys ∧ slA a = some y ∧ slAs r = some ys := by
  unfold slAs at h
  split at h
  · rename_i y ys e1 e2
    cases h
    exact ⟨y, ys, rfl, e1, e2⟩
  · cases h
theorem slAs_len : ∀ {r : List AV} {xs : List AS}, slAs r = some xs → xs.length = r.length
  | [], _, h => by cases h; rfl
  | a :: r, _, h => by
    obtain ⟨y, ys, rfl, _, h2⟩ := slAs_cons h
    exact congrArg (· + 1) (slAs_len h2)
theorem AvA.len : ∀ {avs : List AV} {vs : List V}, AvA K c σa σ H F avs vs → vs.length = avs.length
  | [], [], _ => rfl
  | [], _ :: _, h => h.elim
  | _ :: _, [], h => h.elim
  | _ :: _, _ :: _, h => congrArg (· + 1) (AvA.len h.2)
theorem AvA.at : ∀ {avs : List AV} {vs : List V} {xs : List AS} {t : Nat} {s : AS}, AvA K c σa σ H F avs vs → slAs avs = some xs → xs[t]? = some s → ∃ v, vs[t]? = some v ∧ NewS K c σa σ H F s v
  | [], _, _, _, _, _, e, h => by cases e; simp at h
  | _ :: _, [], _, _, _, A, _, _ => A.elim
  | a :: r, v :: vs, _, 0, s, A, e, h => by
    obtain ⟨y, ys, rfl, h1, h2⟩ := slAs_cons e
    simp at h
    subst h
    exact ⟨v, rfl, (A.1 y h1).1⟩
  | a :: r, v :: vs, _, t + 1, s, A, e, h => by
    obtain ⟨y, ys, rfl, h1, h2⟩ := slAs_cons e
    obtain ⟨w, h3, h4⟩ := AvA.at (t := t) A.2 h2 (by simpa using h)
    exact ⟨w, by simpa using h3, h4⟩
theorem slAs_ow : ∀ {avs : List AV} {xs : List AS} {t : Nat} {x : PyData}, slAs avs = some xs → xs[t]? = some (.o .ow x) → avs[t]? = some (.d true x)
  | [], _, _, _, e, h => by cases e; simp at h
  | a :: r, _, 0, x, e, h => by
    obtain ⟨y, ys, rfl, h1, h2⟩ := slAs_cons e
    simp at h
    subst h
    rw [ow_av h1]
    rfl
  | a :: r, _, t + 1, x, e, h => by
    obtain ⟨y, ys, rfl, h1, h2⟩ := slAs_cons e
    have := slAs_ow (t := t) h2 (by simpa using h)
    simpa using this
theorem AvA.ne : ∀ {avs : List AV} {vs : List V} {t u : Nat} {x y : PyData} {p : Addr}, AvA K c σa σ H F avs vs → avs[t]? = some (.d true x) → avs[u]? = some (.d true y) → vs[t]? = some (.ref p) → vs[u]? = some (.ref p) → t = u
  | [], _, _, _, _, _, _, _, h, _, _, _ => by simp at h
  | _ :: _, [], _, _, _, _, _, A, _, _, _, _ => A.elim
  | a :: r, v :: vs, 0, 0, _, _, _, _, _, _, _, _ => rfl
  | a :: r, v :: vs, 0, u + 1, x, y, p, A, h1, h2, h3, h4 => by
    simp at h1 h3
    subst h1 h3
    exact absurd (by simpa using h4) ((A.1 _ rfl).2 x p rfl rfl u y (by simpa using h2))
  | a :: r, v :: vs, t + 1, 0, x, y, p, A, h1, h2, h3, h4 => by
    simp at h2 h4
    subst h2 h4
    exact absurd (by simpa using h3) ((A.1 _ rfl).2 y p rfl rfl t x (by simpa using h1))
  | a :: r, v :: vs, t + 1, u + 1, x, y, p, A, h1, h2, h3, h4 => congrArg (· + 1) (AvA.ne (t := t) (u := u) A.2 (by simpa using h1) (by simpa using h2) (by simpa using h3) (by simpa using h4))
theorem rst_parL {is : List Nat} {xs : List AS} {avs : List AV} {vs : List V} (Z : Rst K c Hb σa σ) (kp : Kp c.tabs Hb H) (hF : ∀ a, F a → Hb a = none) (nd : is.Nodup) (hl : avs.length = is.length) (ha : ∀ i ∈ is, asg σa i = true) (e : slAs avs = some xs) (A : AvA K c σa σ H F avs vs) :
    Rst K c H (setL is xs σa) (setL is (vs.map some) σ) := by
  have l1 : xs.length = is.length := (slAs_len e).trans hl
  have l2 : (vs.map some).length = is.length := by rw [List.length_map, A.len, hl]
  have lt : ∀ {i : Nat}, i ∈ is → i < σa.length := fun {i} hi => (asg_lt (ha i hi)).1
  have at1 : ∀ {k t : Nat}, is[t]? = some k → (setL is xs σa)[k]? = xs[t]? := fun {k t} h => setL_at is xs σa t nd l1.symm (lt (List.mem_of_getElem? h)) h
  have at2 : ∀ {k t : Nat}, is[t]? = some k → (setL is (vs.map some) σ)[k]? = (vs[t]?).map some := fun {k t} h => by rw [setL_at is (vs.map some) σ t nd l2.symm (by rw [← Z.len]; exact lt (List.mem_of_getElem? h)) h, List.getElem?_map]
  have pos : ∀ {k : Nat}, k ∈ is → ∃ t : Nat, is[t]? = some k := fun {k} h => List.mem_iff_getElem?.mp h
  refine rst_gen Z kp hF (by rw [setL_len, setL_len]; exact Z.len) (fun k s h => ?_) (fun i j x y p hf h1 h2 h3 h4 => ?_) fun q hq => ?_
  · by_cases hk : k ∈ is
    · obtain ⟨t, ht⟩ := pos hk
      rw [at1 ht] at h
      obtain ⟨v, h1, h2⟩ := A.at e h
      exact .inr (.inr ⟨v, by rw [at2 ht, h1]; rfl, h2⟩)
    · rw [setL_ne is xs σa hk] at h
      exact .inl ⟨h, setL_ne is _ σ hk⟩
  · have inn : ∀ {k : Nat} {x : PyData}, (setL is xs σa)[k]? = some (.o .ow x) → (setL is (vs.map some) σ)[k]? = some (some (.ref p)) → ∃ t : Nat, is[t]? = some k ∧ avs[t]? = some (.d true x) ∧ vs[t]? = some (.ref p) := fun {k x} g1 g2 => by
      by_cases hk : k ∈ is
      · obtain ⟨t, ht⟩ := pos hk
        rw [at1 ht] at g1
        rw [at2 ht] at g2
        refine ⟨t, ht, slAs_ow e g1, ?_⟩
        cases hv : vs[t]? with
        | none => rw [hv] at g2; cases g2
        | some v => rw [hv] at g2; cases g2; rfl
      · rw [setL_ne is xs σa hk] at g1
        rw [setL_ne is _ σ hk] at g2
        exact absurd (hF p hf) (Z.rt ⟨k, _, _, g1, g2⟩)
    obtain ⟨t, a1, a2, a3⟩ := inn h1 h3
    obtain ⟨u, b1, b2, b3⟩ := inn h2 h4
    have := A.ne a2 b2 a3 b3
    subst this
    rw [a1] at b1
    exact Option.some.inj b1
  · have hk : q.1 ∉ is := fun z => by
      obtain ⟨_, k, d, h2, h3⟩ := Z.pin q hq
      exact h3 ((asg_lt (ha _ z)).2 k d h2)
    exact ⟨setL_ne is xs σa hk, setL_ne is _ σ hk⟩
theorem parL_ok {W : WX} {D : Ends} {is : List Nat} {avs : List AV} {vs : List V} (Z : Rst K c Hb σa σ) (kp : Kp c.tabs Hb H) (hF : ∀ a, F a → Hb a = none) (nd : is.Nodup) (A : AvA K c σa σ H F avs vs) (q : GoS K W c D (parL is σa avs)) :
    vs.length = is.length ∧ D.nx (setL is (vs.map some) σ) H := by
  unfold parL at q
  split at q
  · rename_i xs e
    split at q
    · rename_i h
      exact ⟨A.len.trans h.1, q _ _ (rst_parL Z kp hF nd h.1 h.2 e A)⟩
    · exact q.elim
  · exact q.elim
end
section
variable {X : Cx} {W : WX} {a b d : Expr} {f : AVL} {i j l : Nat} {x y z : Str} {px py pz pt pos : Pos} {kt k2 : Nat} {pt2 : Pos}
theorem len2 {α : Type} {l : List α} (h : l.length = 2) : ∃ a b, l = [a, b] := by
  match l, h with
  | [a, b], _ => exact ⟨a, b, rfl⟩
theorem len3 {α : Type} {l : List α} (h : l.length = 3) : ∃ a b d, l = [a, b, d] := by
  match l, h with
  | [a, b, d], _ => exact ⟨a, b, d, rfl⟩
theorem ds_par2 (hN : X.N.Nodup) (hc : X.calm = true) (vi : SO X.N X.env.scope i x) (vj : SO X.N X.env.scope j y) (h : DPv X W [a, b] f)
    (hw : swappedStores [.Tuple [.Name x px, .Name y py] kt pt] (.Tuple [a, b] k2 pt2) X.env = pure (some [x, y])) (nd : [i, j].Nodup := by decide)
    (hs : swapsWithSole [.Tuple [.Name x px, .Name y py] kt pt] (.Tuple [a, b] k2 pt2) pos.line X.env = pure false := by rfl) :
    DS X W (.Assign [.Tuple [.Name x px, .Name y py] kt pt] (.Tuple [a, b] k2 pt2) pos) (sPar [i, j] f) := ps_mono (ps_par hc hN vi.n vj.n (fun e => by subst e; simp at nd) vi.l vj.l h hw hs) fun D σ H ⟨c, σa, Z, q⟩ => ⟨c, σa, Z, (go_b Z q).mono fun avs q vs H' F kp hF A => by
  obtain ⟨hl, q⟩ := parL_ok Z kp hF nd A q
  obtain ⟨v, w, rfl⟩ := len2 hl
  exact ⟨v, w, rfl, q⟩⟩
theorem ds_par3 (hN : X.N.Nodup) (hc : X.calm = true) (vi : SO X.N X.env.scope i x) (vj : SO X.N X.env.scope j y) (vl : SO X.N X.env.scope l z) (h : DPv X W [a, b, d] f)
    (hw : swappedStores [.Tuple [.Name x px, .Name y py, .Name z pz] kt pt] (.Tuple [a, b, d] k2 pt2) X.env = pure (some [x, y, z])) (nd : [i, j, l].Nodup := by decide)
    (hs : swapsWithSole [.Tuple [.Name x px, .Name y py, .Name z pz] kt pt] (.Tuple [a, b, d] k2 pt2) pos.line X.env = pure false := by rfl) :
    DS X W (.Assign [.Tuple [.Name x px, .Name y py, .Name z pz] kt pt] (.Tuple [a, b, d] k2 pt2) pos) (sPar [i, j, l] f) := ps_mono (ps_par3 hc hN vi.n vj.n vl.n (fun e => by subst e; simp at nd) (fun e => by subst e; simp at nd) (fun e => by subst e; simp at nd) vi.l vj.l vl.l h hw hs) fun D σ H ⟨c, σa, Z, q⟩ => ⟨c, σa, Z, (go_b Z q).mono fun avs q vs H' F kp hF A => by
  obtain ⟨hl, q⟩ := parL_ok Z kp hF nd A q
  obtain ⟨v, w, u, rfl⟩ := len3 hl
  exact ⟨v, w, u, rfl, q⟩⟩
end
def frz (i : Nat) (s : AE) : AE := match s[i]? with
  | some (.o .ow (.list l)) => s.set i (.v (.list l))
  | _ => s
def sFrz (i : Nat) (m : SM) : SM := fun s => m (frz i s)
theorem rst_frz {K : Fr} {c : RC} {H : Hp} {σa : AE} {σ : L2.St} (i : Nat) (Z : Rst K c H σa σ) : Rst K c H (frz i σa) σ := by
  unfold frz
  split
  · rename_i l e
    have hl : i < σa.length := (List.getElem?_eq_some_iff.mp e).1
    have g : ∀ {j : Nat} {k : Kd} {d : PyData}, (σa.set i (.v (.list l)))[j]? = some (.o k d) → j ≠ i ∧ σa[j]? = some (.o k d) := fun {j k d} h => by
      rcases set_get h with ⟨_, z⟩ | ⟨hj, h⟩
      · cases z
      · exact ⟨hj, h⟩
    have sub : ∀ a, Rt (σa.set i (.v (.list l))) σ a → Rt σa σ a := fun a ⟨j, k, d, h1, h2⟩ => ⟨j, k, d, (g h1).2, h2⟩
    obtain ⟨a, ha, h2⟩ := Z.own i _ _ e
    obtain ⟨o, eo, co⟩ := (show Own _ _ _ _ _ from h2)
    have na : ¬ Rt (σa.set i (.v (.list l))) σ a := fun ⟨j, k, d, h1, h2⟩ => (g h1).1 (Z.inj j i k .ow d _ a (g h1).2 e h2 ha)
    have no : ¬ c.old a := Z.noOld ⟨i, _, _, e, (by intro z; cases z), ha⟩
    have np : ¬ Pr c (σa.set i (.v (.list l))) σ a := fun z => z.elim na no
    refine ⟨by rw [List.length_set]; exact Z.len, fun j d h => ?_, fun j d h => ?_, fun j k d h => ?_, fun j j' k1 k2 d1 d2 a h1 h2 h3 h4 => Z.inj j j' k1 k2 d1 d2 a (g h1).2 (g h2).2 h3 h4, Z.keep, fun a ⟨j, k, d, h1, h2, h3⟩ => Z.muta a ⟨j, k, d, (g h1).2, h2, h3⟩, fun q hq => ?_, fun j d h => Z.lnp j d (g h).2, Z.tab, Z.oldT, Z.tabE, Z.ino⟩
    · rcases set_get h with ⟨rfl, z⟩ | ⟨hj, h⟩
      · cases z
        refine ⟨_, ha, ?_⟩
        cases co with
        | lst f => exact .lst eo np (f.anti (pr_imp sub))
      · obtain ⟨v, h1, h2⟩ := Z.val j d h
        exact ⟨v, h1, h2.anti (pr_imp sub)⟩
    · rcases set_get h with ⟨rfl, z⟩ | ⟨hj, h⟩
      · cases z
      · obtain ⟨b, h1, h2, o, r, co⟩ := Z.bor j d h
        exact ⟨b, h1, fun z => h2 (sub b z), o, r, co.weak (pr_imp sub)⟩
    · obtain ⟨b, h1, h2⟩ := Z.own j k d (g h).2
      exact ⟨b, h1, h2.anti (pr_imp sub)⟩
    · obtain ⟨h1, k, d, h2, h3⟩ := Z.pin q hq
      refine ⟨h1, k, d, ?_, h3⟩
      by_cases hq : q.1 = i
      · rw [hq, e] at h2; cases h2; exact absurd rfl h3
      · rw [List.getElem?_set_ne (fun z => hq z.symm)]; exact h2
  · exact Z
theorem ds_frz {X : Cx} {W : WX} {st : Stmt} {m : SM} (i : Nat) (h : DS X W st m) : DS X W st (sFrz i m) := ps_mono h fun D σ H ⟨c, σa, Z, q⟩ => ⟨c, frz i σa, rst_frz i Z, q⟩
end DL
namespace DL
open PySem PySem.Spec PyProof.Rows L2
section
variable {α β : Type} {c : Prop} [Decidable c]
@[simp] theorem bind_ite (x y : Rs α) (f : α → Rs β) : Rs.bind (if c then x else y) f = if c then x.bind f else y.bind f := by split <;> rfl
@[simp] theorem of_ite (x y : Option α) : Rs.of (if c then x else y) = if c then Rs.of x else Rs.of y := by split <;> rfl
@[simp] theorem sB_ite (x y : Rs α) (s : AE) (f : α → SR) : sB (if c then x else y) s f = if c then sB x s f else sB y s f := by split <;> rfl
/-- behind a statement -/
def SR.seq (r : SR) (u : SM) : SR := match r with
  | .nx s => u s
  | r => r
@[simp] theorem seq_nx (s : AE) (u : SM) : SR.seq (.nx s) u = u s := rfl
@[simp] theorem seq_st (u : SM) : SR.seq .st u = .st := rfl
@[simp] theorem seq_bk (s : AE) (u : SM) : SR.seq (.bk s) u = .bk s := rfl
@[simp] theorem seq_ct (s : AE) (u : SM) : SR.seq (.ct s) u = .ct s := rfl
@[simp] theorem seq_rt (fr : Bool) (d : PyData) (s : AE) (u : SM) : SR.seq (.rt fr d s) u = .rt fr d s := rfl
@[simp] theorem seq_ex (e : Str) (s : AE) (u : SM) : SR.seq (.ex e s) u = .ex e s := rfl
@[simp] theorem seq_ite (x y : SR) (u : SM) : SR.seq (if c then x else y) u = if c then x.seq u else y.seq u := by split <;> rfl
@[simp] theorem sSeq_eq (m u : SM) (s : AE) : sSeq m u s = (m s).seq u := rfl
/-- what a def's body gives -/
def SR.out : SR → Rs AV
  | .nx _ => .ok (dv .none)
  | .rt fr d _ => .ok (.d fr d)
  | .ex e _ => .ex e
  | _ => .st
@[simp] theorem out_nx (s : AE) : SR.out (.nx s) = .ok (dv .none) := rfl
@[simp] theorem out_rt (fr : Bool) (d : PyData) (s : AE) : SR.out (.rt fr d s) = .ok (.d fr d) := rfl
@[simp] theorem out_ex (e : Str) (s : AE) : SR.out (.ex e s) = .ex e := rfl
@[simp] theorem out_ite (x y : SR) : SR.out (if c then x else y) = if c then x.out else y.out := by split <;> rfl
theorem mdef_eq (n : Nat) (ms : List Bool) (m : SM) (ds : List PyData) : mdef n ms m ds = (m (st0 n ms ds)).out := by
  unfold mdef SR.out
  cases m (st0 n ms ds) <;> rfl
end
@[simp] theorem eC_eq (d : PyData) (s : AE) : eC d s = .ok (.d false d) := rfl
@[simp] theorem gt_d (s : AE) (fr : Bool) (x : PyData) : gt s (.d fr x) = .ok x := rfl
/-- a slot's data, to be read -/
def slD : Option AS → Rs PyData
  | some (.o _ d) => .ok d
  | some (.b d) => .ok d
  | _ => .st
@[simp] theorem slD_o (k : Kd) (d : PyData) : slD (some (.o k d)) = .ok d := rfl
@[simp] theorem slD_b (d : PyData) : slD (some (.b d)) = .ok d := rfl
@[simp] theorem gt_sl (s : AE) (i : Nat) : gt s (.sl i) = slD s[i]? := rfl
@[simp] theorem gz_f (x : PyData) : gz (.d false x) = .ok x := rfl
@[simp] theorem gz_l (x : List PyData) : gz (.d true (.list x)) = .ok (.list x) := rfl
@[simp] theorem rd_eq (f : AE → Rs AV) (s : AE) : rd f s = (f s).bind (gt s) := rfl
@[simp] theorem fz_eq (f : AE → Rs AV) (s : AE) : fz f s = (f s).bind gz := rfl
@[simp] theorem eU_eq (op : PyData → Option AV) (fa : AE → Rs PyData) (s : AE) : eU op fa s = (fa s).bind fun d => Rs.of (op d) := rfl
@[simp] theorem eB_eq (op : PyData → PyData → Option AV) (fa fb : AE → Rs PyData) (s : AE) : eB op fa fb s = (fa s).bind fun d => (fb s).bind fun e => Rs.of (op d e) := rfl
@[simp] theorem aNil_eq (s : AE) : aNil s = .ok [] := rfl
@[simp] theorem aCons_eq (g : AE → Rs PyData) (gs : AL) (s : AE) : aCons g gs s = (g s).bind fun d => (gs s).bind fun ds => .ok (d :: ds) := rfl
@[simp] theorem eDef_eq (mf : MF) (gs : AL) (dd : List PyData) (s : AE) : eDef mf gs dd s = (gs s).bind fun ds => mf (ds ++ dd) := rfl
@[simp] theorem eCall_eq (op : List PyData → Option AV) (gs : AL) (s : AE) : eCall op gs s = (gs s).bind fun ds => Rs.of (op ds) := rfl
@[simp] theorem sT_eq (g : AE → Rs PyData) (s : AE) : sT g s = (g s).bind fun d => Rs.of (truthD d) := rfl
@[simp] theorem sNot_eq (t : AE → Rs Bool) (s : AE) : sNot t s = (t s).bind fun b => .ok (!b) := rfl
@[simp] theorem sAnd_eq (t u : AE → Rs Bool) (s : AE) : sAnd t u s = (t s).bind fun b => if b = true then u s else .ok false := rfl
@[simp] theorem sOr_eq (t u : AE → Rs Bool) (s : AE) : sOr t u s = (t s).bind fun b => if b = true then .ok true else u s := rfl
@[simp] theorem eIf_eq (t : AE → Rs Bool) (fa fb : AE → Rs AV) (s : AE) : eIf t fa fb s = (t s).bind fun b => if b = true then fa s else fb s := rfl
@[simp] theorem eAnd_eq (fa fb : AE → Rs AV) (s : AE) : eAnd fa fb s = (fa s).bind fun av => (gt s av).bind fun d => (Rs.of (truthD d)).bind fun b => if b = true then fb s else .ok av := rfl
@[simp] theorem eOr_eq (fa fb : AE → Rs AV) (s : AE) : eOr fa fb s = (fa s).bind fun av => (gt s av).bind fun d => (Rs.of (truthD d)).bind fun b => if b = true then .ok av else fb s := rfl
@[simp] theorem eNot_eq (g : AE → Rs PyData) (s : AE) : eNot g s = (g s).bind fun d => (Rs.of (truthD d)).bind fun b => .ok (dv (.bool (!b))) := rfl
/-- a Bool as a value -/
def avB : AV → Rs Bool
  | .d false (.bool b) => .ok b
  | _ => .st
@[simp] theorem avB_b (b : Bool) : avB (.d false (.bool b)) = .ok b := rfl
theorem sV_eq0 (f : AE → Rs AV) (s : AE) : sV f s = (f s).bind avB := by
  unfold sV
  cases f s with
  | st => rfl
  | ex e => rfl
  | ok av => unfold avB; rfl
@[simp] theorem sV_eq (f : AE → Rs AV) (s : AE) : sV f s = (f s).bind avB := sV_eq0 f s
@[simp] theorem eTup_eq (gs : AL) (s : AE) : eTup gs s = (gs s).bind fun ds => Rs.of (if lenOk ds.length then some (dv (.tuple ds)) else none) := rfl
@[simp] theorem eLst_eq (gs : AL) (s : AE) : eLst gs s = (gs s).bind fun ds => Rs.of (if lenOk ds.length then some (dn (.list ds)) else none) := rfl
@[simp] theorem eV_0 (x : AS) (s : AE) (d : PyData) : eV 0 (.v d :: s) = .ok (.d false d) := rfl
theorem eV_get {i : Nat} {s : AE} {d : PyData} (h : s[i]? = some (.v d)) : eV i s = .ok (.d false d) := by unfold eV; rw [h]
/-- a chain -/
def chB (op' : PyData → PyData → Option AV) (e : PyData) (r : Rs PyData) : Option AV → Rs AV
  | some (.d false (.bool k)) => if k = true then r.bind fun x => Rs.of (op' e x) else .ok (dv (.bool false))
  | _ => .st
@[simp] theorem chB_b (op' : PyData → PyData → Option AV) (e : PyData) (r : Rs PyData) (k : Bool) : chB op' e r (some (.d false (.bool k))) = if k = true then r.bind fun x => Rs.of (op' e x) else .ok (dv (.bool false)) := rfl
@[simp] theorem eCh_eq (op op' : PyData → PyData → Option AV) (ga gb gc : AE → Rs PyData) (s : AE) : eCh op op' ga gb gc s = (ga s).bind fun d => (gb s).bind fun e => chB op' e (gc s) (op d e) := by
  unfold eCh
  cases ga s with
  | st => rfl
  | ex e => rfl
  | ok d =>
    cases gb s with
    | st => rfl
    | ex e => rfl
    | ok e => simp only [Rs.bind_ok]; unfold chB; rfl
section
variable (i j : Int)
@[simp] theorem addD_i : addD (.int i) (.int j) = some (dv (.int (i + j))) := rfl
@[simp] theorem subD_i : subD (.int i) (.int j) = some (dv (.int (i - j))) := rfl
@[simp] theorem negD_i : negD (.int i) = some (dv (.int (-i))) := rfl
@[simp] theorem ltD_i : ltD (.int i) (.int j) = some (dv (.bool (decide (i < j)))) := rfl
@[simp] theorem leD_i : leD (.int i) (.int j) = some (dv (.bool (decide (i ≤ j)))) := rfl
@[simp] theorem gtD_i : gtD (.int i) (.int j) = some (dv (.bool (decide (j < i)))) := rfl
@[simp] theorem geD_i : geD (.int i) (.int j) = some (dv (.bool (decide (j ≤ i)))) := rfl
theorem mulD_i (h : (-(2 ^ 64) < i ∧ i < 2 ^ 64) ∨ (-(2 ^ 64) < j ∧ j < 2 ^ 64)) : mulD (.int i) (.int j) = some (dv (.int (i * j))) := if_pos (h.imp small.of small.of)
theorem divD_i (h : 0 < j ∧ j < 1073741824) : divD (.int i) (.int j) = some (dv (.int (i / j))) := if_pos ⟨h.1, log2_of (by decide) (by omega)⟩
theorem modD_i (h : 0 < j) : modD (.int i) (.int j) = some (dv (.int (i % j))) := if_pos h
@[simp] theorem eqv_i : PyData.eqv (.int i) (.int j) = decide (i = j) := by
  simp only [PyData.eqv]
  by_cases h : i = j
  · simp [h]
  · simp [h]
@[simp] theorem eqD_i : eqD (.int i) (.int j) = some (dv (.bool (decide (i = j)))) := by
  show (if _ then _ else _) = _
  rw [if_pos ⟨rfl, rfl⟩, eqv_i]
@[simp] theorem neD_i : neD (.int i) (.int j) = some (dv (.bool (!decide (i = j)))) := by
  show (if _ then _ else _) = _
  rw [if_pos ⟨rfl, rfl⟩, eqv_i]
end
@[simp] theorem isD_n (d : PyData) : isD d .none = some (dv (.bool (isNoneB d))) := rfl
@[simp] theorem isntD_n (d : PyData) : isntD d .none = some (dv (.bool (!isNoneB d))) := rfl
@[simp] theorem isNone_i (i : Int) : isNoneB (.int i) = false := rfl
@[simp] theorem isNone_n : isNoneB .none = true := rfl
@[simp] theorem isNone_t (l : List PyData) : isNoneB (.tuple l) = false := rfl
@[simp] theorem isNone_l (l : List PyData) : isNoneB (.list l) = false := rfl
@[simp] theorem isNone_s (l : Str) : isNoneB (.str l) = false := rfl
@[simp] theorem isNone_b (l : Bool) : isNoneB (.bool l) = false := rfl
@[simp] theorem truthD_b (b : Bool) : truthD (.bool b) = some b := rfl
@[simp] theorem truthD_n : truthD .none = some false := rfl
@[simp] theorem truthD_t (l : List PyData) : truthD (.tuple l) = some (!l.isEmpty) := rfl
@[simp] theorem truthD_l (l : List PyData) : truthD (.list l) = some (!l.isEmpty) := rfl
@[simp] theorem truthD_i (i : Int) : truthD (.int i) = some (i != 0) := rfl
/-- data of whole numbers, texts, None in lists and tuples -/
def pl : Nat → PyData → Bool
  | _, .none => true
  | _, .int _ => true
  | _, .str _ => true
  | n + 1, .list l => l.all (pl n)
  | n + 1, .tuple l => l.all (pl n)
  | _, _ => false
mutual
theorem eqv_pl : ∀ {n m : Nat} {d e : PyData}, pl n d = true → pl m e = true → (PyData.eqv d e = true ↔ d = e)
  | n, m, .none, e, _, h => by cases e <;> simp [PyData.eqv]
  | n, m, .int i, e, _, h => by cases e <;> simp [PyData.eqv, pl] at h ⊢
  | n, m, .str i, e, _, h => by cases e <;> simp [PyData.eqv]
  | n + 1, m, .list l, e, h1, h => by
    cases e with
    | list k =>
      cases m with
      | zero => cases h
      | succ m =>
        simp only [PyData.eqv, PyData.list.injEq]
        exact eqv_plA (List.all_eq_true.mp h1) (List.all_eq_true.mp h)
    | _ => simp [PyData.eqv]
  | n + 1, m, .tuple l, e, h1, h => by
    cases e with
    | tuple k =>
      cases m with
      | zero => cases h
      | succ m =>
        simp only [PyData.eqv, PyData.tuple.injEq]
        exact eqv_plA (List.all_eq_true.mp h1) (List.all_eq_true.mp h)
    | _ => simp [PyData.eqv]
  | 0, _, .list _, _, h, _ => by cases h
  | 0, _, .tuple _, _, h, _ => by cases h
  | 0, _, .bool _, _, h, _ => by cases h
  | _ + 1, _, .bool _, _, h, _ => by cases h
  | 0, _, .dict _, _, h, _ => by cases h
  | _ + 1, _, .dict _, _, h, _ => by cases h
theorem eqv_plA : ∀ {n m : Nat} {d e : List PyData}, (∀ x ∈ d, pl n x = true) → (∀ x ∈ e, pl m x = true) → (PyData.eqvAll d e = true ↔ d = e)
  | _, _, [], [], _, _ => by simp [PyData.eqvAll]
  | _, _, [], _ :: _, _, _ => by simp [PyData.eqvAll]
  | _, _, _ :: _, [], _, _ => by simp [PyData.eqvAll]
  | n, m, x :: d, y :: e, h1, h2 => by
    simp only [PyData.eqvAll, Bool.and_eq_true, List.cons.injEq]
    rw [eqv_pl (n := n) (m := m) (h1 x List.mem_cons_self) (h2 y List.mem_cons_self), eqv_plA (n := n) (m := m) (fun z hz => h1 z (List.mem_cons_of_mem _ hz)) fun z hz => h2 z (List.mem_cons_of_mem _ hz)]
end
@[simp] theorem sPass_eq (s : AE) : sPass s = .nx s := rfl
@[simp] theorem sBk_eq (s : AE) : sBk s = .bk s := rfl
@[simp] theorem sCt_eq (s : AE) : sCt s = .ct s := rfl
@[simp] theorem sRaise_eq (x : Str) (s : AE) : sRaise x s = .ex x s := rfl
@[simp] theorem sIf_eq (t : AE → Rs Bool) (m u : SM) (s : AE) : sIf t m u s = sB (t s) s fun b => if b = true then m s else u s := rfl
@[simp] theorem sRet_eq (f : AE → Rs AV) (s : AE) : sRet f s = sB (f s) s (rtA s) := rfl
@[simp] theorem rtA_d (s : AE) (fr : Bool) (d : PyData) : rtA s (.d fr d) = .rt fr d s := rfl
@[simp] theorem sRetN_eq (s : AE) : sRetN s = .rt false .none s := rfl
@[simp] theorem sDrop_eq (f : AE → Rs AV) (s : AE) : sDrop f s = sB (f s) s fun _ => .nx s := rfl
@[simp] theorem sSet_eq (i : Nat) (f : AE → Rs AV) (s : AE) : sSet i f s = sB (f s) s (stA i s) := rfl
@[simp] theorem stA_v (i : Nat) (s : AE) (d : PyData) : stA i s (.d false d) = if asg s i = true then .nx (s.set i (.v d)) else .st := rfl
@[simp] theorem stA_o (i : Nat) (s : AE) (d : PyData) : stA i s (.d true d) = if asg s i = true then .nx (s.set i (.o .ow d)) else .st := rfl
@[simp] theorem sAsg_eq (t : TgM) (f : AE → Rs AV) (s : AE) : sAsg t f s = sB ((f s).bind gz) s fun d => ofT (t d s) := rfl
@[simp] theorem tN_eq (i : Nat) (d : PyData) (s : AE) : tN i d s = if asg s i = true then some (s.set i (.v d)) else none := rfl
@[simp] theorem tNil_eq (s : AE) : DL.tNil [] s = some s := rfl
@[simp] theorem tCons_eq (t : TgM) (u : TgsM) (d : PyData) (r : List PyData) (s : AE) : DL.tCons t u (d :: r) s = (t d s).bind (u r) := rfl
@[simp] theorem tTup_t (n : Nat) (t : TgsM) (ds : List PyData) (s : AE) : DL.tTup n t (.tuple ds) s = if ds.length = n then t ds s else none := rfl
@[simp] theorem tTup_l (n : Nat) (t : TgsM) (ds : List PyData) (s : AE) : DL.tTup n t (.list ds) s = if ds.length = n then t ds s else none := rfl
@[simp] theorem pNil_eq (s : AE) : pNil s = .ok [] := rfl
@[simp] theorem pCons_eq (f : AE → Rs AV) (fs : AVL) (s : AE) : pCons f fs s = (f s).bind fun a => (fs s).bind fun l => .ok (a :: l) := rfl
@[simp] theorem sPar_eq (is : List Nat) (f : AVL) (s : AE) : sPar is f s = sB (f s) s (parL is s) := rfl
theorem sFor_eq (it : AE → Rs (List PyData)) (ls : List Nat) (t : TgM) (body : SM) (fg : List Nat) (s : AE) : sFor it ls t body fg s = sB (it s) s fun ds => (forL t body fg ds (fgt fg (lend ls s))).map (unl s ls) := rfl
/-- the turn's end -/
def SR.turn (r : SR) (fg : List Nat) (k : AE → SR) : SR := match r with
  | .nx s => k (fgt fg s)
  | .ct s => k (fgt fg s)
  | .bk s => .nx (fgt fg s)
  | r => r
section
variable {c : Prop} [Decidable c] (fg : List Nat) (k : AE → SR) (s : AE)
@[simp] theorem turn_nx : SR.turn (.nx s) fg k = k (fgt fg s) := rfl
@[simp] theorem turn_ct : SR.turn (.ct s) fg k = k (fgt fg s) := rfl
@[simp] theorem turn_bk : SR.turn (.bk s) fg k = .nx (fgt fg s) := rfl
@[simp] theorem turn_rt (fr : Bool) (d : PyData) : SR.turn (.rt fr d s) fg k = .rt fr d s := rfl
@[simp] theorem turn_ex (e : Str) : SR.turn (.ex e s) fg k = .ex e s := rfl
@[simp] theorem turn_ite (x y : SR) : SR.turn (if c then x else y) fg k = if c then x.turn fg k else y.turn fg k := by split <;> rfl
end
@[simp] theorem forL_nil (t : TgM) (body : SM) (fg : List Nat) (s : AE) : forL t body fg [] s = .nx s := rfl
theorem forL_cons {t : TgM} {body : SM} {fg : List Nat} {d : PyData} {ds : List PyData} {s s1 : AE} (h : t d s = some s1) : forL t body fg (d :: ds) s = (body s1).turn fg (forL t body fg ds) := by
  rw [forL, h]
  show (match body s1 with
      | .nx s2 => forL t body fg ds (fgt fg s2)
      | .ct s2 => forL t body fg ds (fgt fg s2)
      | .bk s2 => .nx (fgt fg s2)
      | r => r) = _
  cases body s1 <;> rfl
theorem whL_succ (t : AE → Rs Bool) (body : SM) (fg : List Nat) (n : Nat) (s : AE) : whL t body fg (n + 1) s = sB (t s) s fun b => if b = true then (body s).turn fg (whL t body fg n) else .nx s := rfl
@[simp] theorem map_nx (f : AE → AE) (s : AE) : SR.map f (.nx s) = .nx (f s) := rfl
@[simp] theorem map_rt (f : AE → AE) (fr : Bool) (d : PyData) (s : AE) : SR.map f (.rt fr d s) = .rt fr d (f s) := rfl
@[simp] theorem map_ex (f : AE → AE) (e : Str) (s : AE) : SR.map f (.ex e s) = .ex e (f s) := rfl
@[simp] theorem map_ite {c : Prop} [Decidable c] (f : AE → AE) (x y : SR) : SR.map f (if c then x else y) = if c then x.map f else y.map f := by split <;> rfl
/-- a loop whose turns go from state to state -/
theorem forL_run {α β : Type} {t : TgM} {body : SM} {fg : List Nat} {emb : α → PyData} {S : β → AE} {step : β → α → β} (h : ∀ (b : β) (a : α), ∃ s1 s2, t (emb a) (S b) = some s1 ∧ (body s1 = .nx s2 ∨ body s1 = .ct s2) ∧ fgt fg s2 = S (step b a)) :
    ∀ (l : List α) (b : β), forL t body fg (l.map emb) (S b) = .nx (S (l.foldl step b))
  | [], b => rfl
  | a :: l, b => by
    obtain ⟨s1, s2, e1, e2, e3⟩ := h b a
    rw [List.map_cons, forL_cons e1, List.foldl_cons]
    rcases e2 with e2 | e2 <;> rw [e2] <;> simp only [turn_nx, turn_ct] <;> rw [e3] <;> exact forL_run h l _
/-- .. with an invariant of what is left -/
theorem forL_inv {t : TgM} {body : SM} {fg : List Nat} (I : List PyData → AE → Prop) (h : ∀ d ds s, I (d :: ds) s → ∃ s1 s2, t d s = some s1 ∧ (body s1 = .nx s2 ∨ body s1 = .ct s2) ∧ I ds (fgt fg s2)) :
    ∀ (l : List PyData) (s : AE), I l s → ∃ s', forL t body fg l s = .nx s' ∧ I [] s'
  | [], s, i => ⟨s, rfl, i⟩
  | d :: l, s, i => by
    obtain ⟨s1, s2, e1, e2, i2⟩ := h d l s i
    rw [forL_cons e1]
    rcases e2 with e2 | e2 <;> rw [e2] <;> exact forL_inv I h l _ i2
/-- the text's loop -/
def drawB : SM := (sSeq (sSet 5 (eB modD (rd (eCall intD (aCons (rd (eB addD (rd (eB addD (rd (eB mulD (rd (eV 0)) (rd (eC (.int 48271))))) (rd (eB mulD (rd (eV 4)) (rd (eC (.int 69621))))))) (rd (eC (.int 1))))) (aNil)))) (rd (eC (.int 2147483647)))))
  (sIf (sV (eB geD (rd (eV 0)) (rd (eB powD (rd (eC (.int 10))) (rd (eC (.int 18))))))) (sSeq (sApp 2 (fz (eB modD (rd (eV 3)) (rd (eC (.int 1009))))))
  (sSet 3 (eB divD (rd (eV 3)) (rd (eC (.int 1009)))))) (sApp 2 (fz (eB divD (rd (eB modD (rd (eCall intD (aCons (rd (eB addD (rd (eB mulD (rd (eV 5)) (rd (eV 5)))) (rd (eB mulD (rd (eV 5)) (rd (eC (.int 40692))))))) (aNil)))) (rd (eC (.int 2147483399))))) (rd (eC (.int 7))))))))
/-- the text's function: every law's is the same -/
def drawsM : SM :=
  sSeq (sSet 2 (eLst (aNil)))
  (sSeq (sSet 3 (eCall intD (aCons (rd (eV 0)) (aNil))))
  (sSeq (sFor (iRg1 (rd (eV 1))) [] (tN 4)
  drawB [4, 5])
  (sRet (eV 2))))
/-- the numbers that a law works with -/
def nums (N : Nat) (n : Nat → Int) : List PyData := (List.range N).map fun k => .int (n k)
@[simp] theorem nums_len (N : Nat) (n : Nat → Int) : (nums N n).length = N := by unfold nums; rw [List.length_map, List.length_range]
theorem nums_ix {N : Nat} {n : Nat → Int} {i : Int} (h : 0 ≤ i ∧ i < N) : ixD (.list (nums N n)) (.int i) = some (dv (.int (n i.toNat))) := by
  obtain ⟨k, rfl⟩ := Int.eq_ofNat_of_zero_le h.1
  have hk : k < N := by omega
  show (atI (nums N n) (k : Int)).map dv = _
  unfold atI ixN
  rw [if_pos (by omega), nums_len, if_pos (by omega)]
  unfold nums
  show (((List.range N).map fun k => PyData.int (n k))[k]?).map dv = _
  rw [List.getElem?_map, List.getElem?_range hk]
  rfl
/-- the state of the loop: what was drawn, what is left -/
def drawS (x K : Int) (p : List Int × Int) : AE := [.v (.int x), .v (.int K), .o .ow (.list (p.1.map .int)), .v (.int p.2), .un, .un]
def drawStep (x : Int) (p : List Int × Int) (k : Nat) : List Int × Int :=
  if 1000000000000000000 ≤ x then (p.1 ++ [p.2 % 1009], p.2 / 1009) else
    let m := (x * 48271 + (k : Int) * 69621 + 1) % 2147483647
    (p.1 ++ [(m * m + m * 40692) % 2147483399 / 7], p.2)
theorem draw_turn (x K : Int) (p : List Int × Int) (k : Nat) (hp : p.1.length = k) (hk : k < 1000) : ∃ s1 s2, tN 4 (.int k) (drawS x K p) = some s1 ∧
    drawB s1 = .nx s2 ∧
    fgt [4, 5] s2 = drawS x K (drawStep x p k) := by
  have hl : lenOk (p.1.length + 1) := lenOk.of (by omega)
  have hm : 0 ≤ (x * 48271 + (k : Int) * 69621 + 1) % 2147483647 ∧ (x * 48271 + (k : Int) * 69621 + 1) % 2147483647 < 2147483647 := by omega
  have e48 : mulD (.int x) (.int 48271) = some (dv (.int (x * 48271))) := mulD_i _ _ (.inr (by omega))
  have e69 : mulD (.int (k : Int)) (.int 69621) = some (dv (.int ((k : Int) * 69621))) := mulD_i _ _ (.inr (by omega))
  refine ⟨_, ((drawS x K (drawStep x p k)).set 4 (.v (.int k))).set 5 (.v (.int ((x * 48271 + (k : Int) * 69621 + 1) % 2147483647))), rfl, ?_, ?_⟩
  · by_cases h : 1000000000000000000 ≤ x
    · simp [-reduceCtorEq, drawB, drawS, drawStep, h, eV, e48, e69, intD, modD_i, divD_i, powD, asg, sApp, onL, putL, hl]
    · simp only [Int.not_le] at h
      have e1 : ¬ 1000000000000000000 ≤ x := by omega
      generalize hmm : (x * 48271 + (k : Int) * 69621 + 1) % 2147483647 = m at hm
      have e2 : mulD (.int m) (.int m) = some (dv (.int (m * m))) := mulD_i _ _ (.inr (by omega))
      have e3 : mulD (.int m) (.int 40692) = some (dv (.int (m * 40692))) := mulD_i _ _ (.inr (by omega))
      simp [-reduceCtorEq, drawB, drawS, drawStep, e1, eV, e48, e69, intD, modD_i, divD_i, powD, asg, sApp, onL, putL, hl, hmm, e2, e3]
  · by_cases h : 1000000000000000000 ≤ x <;> simp [-reduceCtorEq, drawS, drawStep, h, fgt, asg]
theorem rgD_0 (n : Nat) : rgD 0 (n : Int) = (List.range n).map fun k : Nat => PyData.int (k : Int) := by
  unfold rgD
  rw [Int.sub_zero, Int.toNat_natCast]
  congr 1
  funext k
  rw [Int.zero_add]
/-- the draws: N numbers from 0 on, below 306783343 -/
theorem draws_ok (x : Int) (N : Nat) (hN : N ≤ 1000) : ∃ n : Nat → Int, (∀ k, 0 ≤ n k ∧ n k < 306783343) ∧ mdef 6 [false, false] drawsM [.int x, .int N] = .ok (.d true (.list (nums N n))) := by
  have key : ∀ (M : Nat) (k0 : Nat) (p : List Int × Int), k0 + M ≤ 1000 → p.1.length = k0 → (∀ z ∈ p.1, 0 ≤ z ∧ z < 306783343) →
      ∃ q : List Int × Int, q.1.length = k0 + M ∧ (∀ z ∈ q.1, 0 ≤ z ∧ z < 306783343) ∧ forL (tN 4) drawB [4, 5] ((List.range' k0 M).map fun k : Nat => PyData.int (k : Int)) (drawS x N p) = .nx (drawS x N q) := by
    intro M
    induction M with
    | zero => exact fun k0 p h1 h2 h3 => ⟨p, h2, h3, rfl⟩
    | succ M ih =>
      intro k0 p h1 h2 h3
      obtain ⟨s1, s2, e1, e2, e3⟩ := draw_turn x N p k0 h2 (by omega)
      have hl : (drawStep x p k0).1.length = k0 + 1 := by
        unfold drawStep
        split <;> simp [h2]
      have hz : ∀ z ∈ (drawStep x p k0).1, 0 ≤ z ∧ z < 306783343 := by
        intro z hz
        unfold drawStep at hz
        split at hz
        · rcases List.mem_append.mp hz with hz | hz
          · exact h3 z hz
          · rw [List.mem_singleton] at hz; omega
        · rcases List.mem_append.mp hz with hz | hz
          · exact h3 z hz
          · rw [List.mem_singleton] at hz; omega
      obtain ⟨q, q1, q2, q3⟩ := ih (k0 + 1) (drawStep x p k0) (by omega) hl hz
      refine ⟨q, by omega, q2, ?_⟩
      rw [List.range'_succ, List.map_cons, forL_cons e1, e2, turn_nx, e3]
      exact q3
  obtain ⟨q, h1, h2, h3⟩ := key N 0 ([], x) (by omega) rfl (fun z hz => by cases hz)
  rw [Nat.zero_add] at h1
  refine ⟨fun k => q.1.getD k 0, fun k => ?_, ?_⟩
  · show 0 ≤ q.1.getD k 0 ∧ q.1.getD k 0 < 306783343
    rw [List.getD_eq_getElem?_getD]
    cases e : q.1[k]? with
    | none => exact ⟨by decide, by decide⟩
    | some z => exact h2 z (List.mem_of_getElem? e)
  · have eq : q.1.map PyData.int = nums N fun k => q.1.getD k 0 := by
      apply List.ext_getElem?
      intro i
      unfold nums
      rw [List.getElem?_map, List.getElem?_map]
      by_cases hi : i < N
      · rw [List.getElem?_range hi]
        show _ = some (PyData.int (q.1.getD i 0))
        rw [List.getD_eq_getElem?_getD, List.getElem?_eq_getElem (by omega)]
        rfl
      · rw [List.getElem?_eq_none (by omega), List.getElem?_eq_none (by rw [List.length_range]; omega)]
        rfl
    rw [← eq]
    rw [mdef_eq]
    unfold drawsM
    have hr : rgOk 0 (N : Int) := rgOk.of (by omega)
    have e0 : forL (tN 4) drawB [4, 5] (rgD 0 (N : Int)) (drawS x N ([], x)) = .nx (drawS x N q) := by
      rw [rgD_0, List.range_eq_range']; exact h3
    simp [-reduceCtorEq, st0, argsS, argS, eV, asg, intD, sFor_eq, iRg1, hr, lend, fgt]
    rw [show forL (tN 4) drawB [4, 5] (rgD 0 (N : Int)) [AS.v (PyData.int x), AS.v (PyData.int N), AS.o Kd.ow (PyData.list []), AS.v (PyData.int x), AS.un, AS.un] = .nx (drawS x N q) from e0]
    rfl
def onT (o : Option AE) (k : AE → SR) : SR := match o with
  | some s => k s
  | none => .st
@[simp] theorem onT_some (s : AE) (k : AE → SR) : onT (some s) k = k s := rfl
@[simp] theorem forL_step (t : TgM) (body : SM) (fg : List Nat) (d : PyData) (ds : List PyData) (s : AE) : forL t body fg (d :: ds) s = onT (t d s) fun s1 => (body s1).turn fg (forL t body fg ds) := by
  cases e : t d s with
  | none => rw [forL, e]; rfl
  | some s1 => rw [forL_cons e]; rfl
theorem mulD_r {i j : Int} (h : small j) : mulD (.int i) (.int j) = some (dv (.int (i * j))) := if_pos (.inr h)
theorem out_true {r : SR} (h : r.out = .ok (dv (.bool true))) : ∃ s, r = .rt false (.bool true) s := by
  cases r with
  | rt fr d s =>
    have h : (Rs.ok (.d fr d) : Rs AV) = .ok (.d false (.bool true)) := h
    simp only [Rs.ok.injEq, AV.d.injEq] at h
    obtain ⟨rfl, rfl⟩ := h
    exact ⟨s, rfl⟩
  | nx s =>
    have h : (Rs.ok (.d false .none) : Rs AV) = .ok (.d false (.bool true)) := h
    simp at h
  | st => cases h
  | bk s => cases h
  | ct s => cases h
  | ex e s => cases h
theorem neD_2 (a b c d : Int) : neD (.tuple [.int a, .int b]) (.tuple [.int c, .int d]) = some (dv (.bool (!(decide (a = c) && decide (b = d))))) := by
  show (if _ then _ else _) = _
  rw [if_pos ⟨rfl, rfl⟩]
  simp [PyData.eqv, PyData.eqvAll]
  rfl
/-- the law, by what its body gives -/
theorem law_by {N : Nat} {kd : Nat} {m : SM} {md : MF} (hmd : md = mdef 6 [false, false] drawsM) (hk : kd ≤ 1000) (h : ∀ n : Nat → Int, (∀ k, 0 ≤ n k ∧ n k < 306783343) → (m (stL N (nums kd n))).out = .ok (dv (.bool true))) :
    ∀ x : Int, ∃ l s', md [.int x, .int (kd : Int)] = .ok (.d true (.list l)) ∧ m (stL N l) = .rt false (.bool true) s' := fun x => by
  obtain ⟨n, hn, e⟩ := draws_ok x kd hk
  obtain ⟨s, es⟩ := out_true (h n hn)
  exact ⟨nums kd n, s, by rw [hmd]; exact e, es⟩
end DL
namespace DL
open PySem PySem.Spec PyProof.Rows L2
/-- a slot that a block's own name may take -/
def free1 (s : AE) (i : Nat) : Bool := match s[i]? with
  | some .un => true
  | some (.v _) => true
  | some (.b _) => true
  | _ => false
def wipeA (s : AE) : List Nat → AE
  | [] => s
  | v :: vs => (wipeA s vs).set v .un
section
variable {K : Fr} {c : RC} {H : Hp} {σa : AE} {σ : L2.St} {vs : List Nat}
theorem wipeA_len : ∀ vs : List Nat, (wipeA σa vs).length = σa.length
  | [] => rfl
  | v :: vs => by unfold wipeA; rw [List.length_set, wipeA_len vs]
theorem wipeA_get {j : Nat} {s : AS} : ∀ {vs : List Nat}, (wipeA σa vs)[j]? = some s → s = .un ∨ (j ∉ vs ∧ σa[j]? = some s)
  | [], h => .inr ⟨by simp, h⟩
  | v :: vs, h => by
    unfold wipeA at h
    rcases set_get h with ⟨_, e⟩ | ⟨hj, h⟩
    · exact .inl e
    · rcases wipeA_get h with h | ⟨h1, h2⟩
      · exact .inl h
      · exact .inr ⟨by simp [hj, h1], h2⟩
theorem wipe_ne {j : Nat} : ∀ {vs : List Nat}, j ∉ vs → (wipe σ vs)[j]? = σ[j]?
  | [], _ => rfl
  | v :: vs, h => by
    unfold wipe
    rw [List.getElem?_set_ne (fun z => h (by rw [z]; exact List.mem_cons_self))]
    exact wipe_ne fun z => h (List.mem_cons_of_mem _ z)
theorem wipeA_ne {j : Nat} : ∀ {vs : List Nat}, j ∉ vs → (wipeA σa vs)[j]? = σa[j]?
  | [], _ => rfl
  | v :: vs, h => by
    unfold wipeA
    rw [List.getElem?_set_ne (fun z => h (by rw [z]; exact List.mem_cons_self))]
    exact wipeA_ne fun z => h (List.mem_cons_of_mem _ z)
theorem rt_wipe (hf : ∀ i ∈ vs, free1 σa i = true) {a : Addr} : Rt (wipeA σa vs) (wipe σ vs) a ↔ Rt σa σ a := by
  constructor
  · rintro ⟨j, k, d, h1, h2⟩
    rcases wipeA_get h1 with z | ⟨hj, h1⟩
    · cases z
    · rw [wipe_ne hj] at h2; exact ⟨j, k, d, h1, h2⟩
  · rintro ⟨j, k, d, h1, h2⟩
    have hj : j ∉ vs := fun z => by
      have := hf j z
      unfold free1 at this
      rw [h1] at this
      cases this
    exact ⟨j, k, d, by rw [wipeA_ne hj]; exact h1, by rw [wipe_ne hj]; exact h2⟩
theorem rst_wipe (Z : Rst K c H σa σ) (hf : ∀ i ∈ vs, free1 σa i = true) : Rst K c H (wipeA σa vs) (wipe σ vs) := by
  refine rst_gen (F := fun _ => False) Z (Kp.refl Z) (fun _ z => z.elim) (by rw [wipeA_len, wipe_length]; exact Z.len) (fun j s h => ?_) (fun _ _ _ _ _ z => z.elim) fun q hq => ?_
  · rcases wipeA_get h with z | ⟨hj, h⟩
    · exact .inr (.inl z)
    · exact .inl ⟨h, wipe_ne hj⟩
  · obtain ⟨_, k, d, h2, h3⟩ := Z.pin q hq
    have hj : q.1 ∉ vs := fun z => by
      have := hf _ z
      unfold free1 at this
      rw [h2] at this
      cases this
    exact ⟨wipeA_ne hj, wipe_ne hj⟩
end
def nox {α : Type} : Rs α → Rs α
  | .ex _ => .st
  | r => r
theorem nox_ok {α : Type} {r : Rs α} {a : α} (h : nox r = .ok a) : r = .ok a := by
  cases r with
  | st => exact h
  | ex e => cases h
  | ok b => exact h
theorem bind_ok {α β : Type} {r : Rs α} {f : α → Rs β} {b : β} (h : r.bind f = .ok b) : ∃ a, r = .ok a ∧ f a = .ok b := by
  cases r with
  | st => cases h
  | ex e => cases h
  | ok a => exact ⟨a, rfl, h⟩
/-- the items that a comprehension makes: s the block's state -/
def compL (t : TgM) (tt : AE → Rs Bool) (te : AE → Rs PyData) (s : AE) : List PyData → Rs (List PyData)
  | [] => .ok []
  | d :: ds => match t d s with
    | none => .st
    | some s1 => (nox (tt s1)).bind fun b => if b = true then (nox (te s1)).bind fun x => (compL t tt te s ds).bind fun l => .ok (x :: l) else compL t tt te s ds
/-- [te for t in it if tt]; vs: the slots of the block's own names -/
def eLc (it : AE → Rs (List PyData)) (vs : List Nat) (t : TgM) (tt : AE → Rs Bool) (te : AE → Rs PyData) : AE → Rs AV := fun s => (it s).bind fun ds => if vs.all (free1 s) = true ∧ lenOk ds.length then (nox (compL t tt te (wipeA s vs) ds)).bind fun l => .ok (dn (.list l)) else .st
abbrev W0 : WX := fun _ _ _ _ => False
section
variable {K : Fr} {W : WX} {it : AE → Rs (List PyData)} {ls vs ts : List Nat} {t : TgM} {tt : AE → Rs Bool} {te : AE → Rs PyData}
theorem compL_cons {s : AE} {d : PyData} {ds l : List PyData} (h : compL t tt te s (d :: ds) = .ok l) : ∃ s1 b, t d s = some s1 ∧ tt s1 = .ok b ∧ ((b = true ∧ ∃ x r, te s1 = .ok x ∧ compL t tt te s ds = .ok r ∧ l = x :: r) ∨ (b = false ∧ compL t tt te s ds = .ok l)) := by
  unfold compL at h
  cases e : t d s with
  | none => rw [e] at h; cases h
  | some s1 =>
    rw [e] at h
    obtain ⟨b, h1, h2⟩ := bind_ok h
    refine ⟨s1, b, rfl, nox_ok h1, ?_⟩
    cases b with
    | true =>
      rw [if_pos rfl] at h2
      obtain ⟨x, h3, h4⟩ := bind_ok h2
      obtain ⟨r, h5, h6⟩ := bind_ok h4
      cases h6
      exact .inl ⟨rfl, x, r, nox_ok h3, h5, rfl⟩
    | false => exact .inr ⟨rfl, h2⟩
theorem wipe_at {σ : L2.St} {j : Nat} : ∀ {vs : List Nat}, j ∈ vs → j < σ.length → (wipe σ vs)[j]? = some none
  | [], h, _ => by cases h
  | v :: vs, h, hl => by
    unfold wipe
    by_cases e : v = j
    · subst e; rw [List.getElem?_set_self (by rw [wipe_length]; exact hl)]
    · rw [List.getElem?_set_ne e]
      exact wipe_at ((List.mem_cons.mp h).resolve_left fun z => e z.symm) hl
theorem wipe_same {σ σ' : L2.St} (h : Same ts (wipe σ vs) σ') (hs : ∀ i ∈ ts, i ∈ vs) : wipe σ' vs = wipe σ vs := by
  have hl : σ'.length = σ.length := h.len.trans (wipe_length σ vs)
  apply List.ext_getElem?
  intro j
  by_cases hj : j ∈ vs
  · by_cases hlt : j < σ.length
    · rw [wipe_at hj hlt, wipe_at hj (by rw [hl]; exact hlt)]
    · rw [List.getElem?_eq_none (by rw [wipe_length]; omega), List.getElem?_eq_none (by rw [wipe_length]; omega)]
  · rw [wipe_ne hj, h.at_ j fun z => hj (hs j z)]
theorem kp_set {ts : List Addr} {H1 H5 : Hp} {D : Addr} {xs ys : List V} (k : Kp ts H1 H5) (hD : H1 D = none) (e : H5 D = some (.lst xs)) : Kp ts H1 (upd H5 D (.lst ys)) where
  k := (k.k.trans (P1 := fun a => a = D) (Keep.set rfl fun zs z => by
    rcases z with z | ⟨ob, z⟩ <;> rw [e] at z <;> cases z) fun a z => .inr (z ▸ hD)).imp fun _ z => z
  t := fun t ht => (k.t t ht).upd e (fun ps z => by cases z) lst_ne_code
theorem t_lc (hok : TgOk t ts) (hs : ∀ i ∈ ts, i ∈ vs) {σ : L2.St} {H : Hp} {Q : VK} (h : tD K W (eLc it vs t tt te) σ H Q) : tLc (tI K W it ls) (gD K t ts) (tTs K W0 tt) (tFz K W0 te) vs σ H Q := by
  obtain ⟨c, σa, Z, q⟩ := h
  refine ⟨c, σa, Z, (Go.bind q).mono fun ds q J H1 k1 y D hD => ?_⟩
  have Z1 := Z.kp k1
  have hc : vs.all (free1 σa) = true ∧ lenOk ds.length := by
    by_cases hc : vs.all (free1 σa) = true ∧ lenOk ds.length
    · exact hc
    · rw [if_neg hc] at q; exact q.elim
  rw [if_pos hc] at q
  obtain ⟨hfr, hlen⟩ := hc
  have hfr : ∀ i ∈ vs, free1 σa i = true := fun i hi => List.all_eq_true.mp hfr i hi
  obtain ⟨l, el, q⟩ : ∃ l, compL t tt te (wipeA σa vs) ds = .ok l ∧ Go K W c σ H (.ok (dn (.list l)) : Rs AV) fun av => ∀ v H', Kp c.tabs H H' → AvR K c σa σ H H' av v → Q v H' := by
    cases el : compL t tt te (wipeA σa vs) ds with
    | st => rw [el] at q; exact q.elim
    | ex e => rw [el] at q; exact q.elim
    | ok l => rw [el] at q; exact ⟨l, rfl, q⟩
  have q : ∀ v H', Kp c.tabs H H' → AvR K c σa σ H H' (dn (.list l)) v → Q v H' := q
  refine ⟨fun i m H2 => m = ds.length - i ∧ i ≤ ds.length ∧ ∃ acc accd rest, Kp c.tabs H1 H2 ∧ H2 D = some (.lst acc) ∧ FzA K (fun a => Pr c σa σ a ∨ a = D) H2 acc accd ∧ acc.length ≤ i ∧ compL t tt te (wipeA σa vs) (ds.drop i) = .ok rest ∧ accd ++ rest = l, ⟨ds.length, rfl, Nat.zero_le _, [], [], l, Kp.new Z1.tab hD, upd_same, .nil, Nat.le_refl _, by rw [List.drop_zero]; exact el, rfl⟩, ?_⟩
  rintro i m H2 ⟨rfl, hi, acc, accd, rest, kk, eD, fz, hl, ec, ea⟩
  obtain ⟨yg, ys⟩ := y i H2 (kk.k.imp fun _ z => z.elim) kk.t
  by_cases hil : i < ds.length
  · right
    have e := List.getElem?_eq_getElem hil
    obtain ⟨go, st⟩ := yg _ e
    rw [List.drop_eq_getElem_cons hil] at ec
    obtain ⟨s1, b, e1, e2, e3⟩ := compL_cons ec
    have kD : ∀ {H' : Hp}, Kp c.tabs H2 H' → H' D = some (.lst acc) := fun {H'} k => k.k.oth D _ eD (fun z => z) fun ps z => by cases z
    refine ⟨go, fun H' => ds.length - (i + 1) = ds.length - (i + 1) ∧ i + 1 ≤ ds.length ∧ ∃ acc accd rest, Kp c.tabs H1 H' ∧ H' D = some (.lst acc) ∧ FzA K (fun a => Pr c σa σ a ∨ a = D) H' acc accd ∧ acc.length ≤ i + 1 ∧ compL t tt te (wipeA σa vs) (ds.drop (i + 1)) = .ok rest ∧ accd ++ rest = l, fun H' n => ⟨ds.length - (i + 1), by omega, n⟩, fun x H3 z => ?_⟩
    obtain ⟨k3, f3⟩ := st x H3 z
    have Z3 : Rst K (cOld c H3 σa σ D) H3 σa σ := rst_old Z1 (kk.trans k3) hD (by rw [kD k3]; intro z; cases z)
    have Zw := rst_wipe Z3 hfr
    refine ⟨cOld c H3 σa σ D, wipeA σa vs, _, Zw, f3 _ (fun a z => ?_), s1, e1, fun σ' Z' sub same => ⟨wipe_same same hs, ?_⟩⟩
    · rcases z with z | z | z
      · exact .inl (.inl ((rt_wipe hfr).mp z))
      · exact .inl (.inr z)
      · exact .inr (z ▸ hD)
    have rtS : ∀ a, Rt σa σ a → Rt s1 σ' a := fun a h => by
      obtain ⟨j, k, d, h1, h2⟩ := (rt_wipe hfr).mpr h
      have hj : j ∉ ts := fun z => by
        rcases wipeA_get h1 with z' | ⟨hj, _⟩
        · cases z'
        · exact hj (hs j z)
      exact ⟨j, k, d, by rw [hok _ _ _ e1 j hj]; exact h1, by rw [same.at_ j hj]; exact h2⟩
    refine ⟨cOld c H3 σa σ D, s1, Z', ?_⟩
    rw [e2]
    intro H4 k4
    have k4 : Kp c.tabs H3 H4 := k4
    rcases e3 with ⟨rfl, dx, r, e3, e4, rfl⟩ | ⟨rfl, e3⟩
    · rw [if_pos rfl]
      refine ⟨cOld c H3 σa σ D, s1, Z'.kp k4, ?_⟩
      rw [e3]
      intro yv H5 k5 fy
      have k5 : Kp c.tabs H4 H5 := k5
      have k25 : Kp c.tabs H2 H5 := (k3.trans k4).trans k5
      have eD5 := kD k25
      refine ⟨acc, eD5, Nat.lt_of_le_of_lt hl (Nat.lt_of_lt_of_le hil hlen.line), rfl, hil, acc ++ [yv], accd ++ [dx], r, kp_set (kk.trans k25) hD eD5, upd_same, ?_, by simp; omega, e4, by rw [← ea]; simp⟩
      have ks : Keep (fun a => Pr c σa σ a ∨ a = D) H5 (upd H5 D (.lst (acc ++ [yv]))) := (Keep.set (P := fun a => a = D) rfl fun zs z => by
        rcases z with z | ⟨ob, z⟩ <;> rw [eD5] at z <;> cases z).imp fun a z => .inr z
      refine (((fz.keep0 k25.k)).append (.cons (fy.anti fun a z => ?_) .nil)).mono ks fun a z => .inl z
      rcases z with (z | z) | z
      · exact .inl (rtS a z)
      · exact .inr (.inl z)
      · exact .inr (.inr z)
    · rw [if_neg Bool.false_ne_true]
      have k24 : Kp c.tabs H2 H4 := k3.trans k4
      exact ⟨rfl, hil, acc, accd, rest, kk.trans k24, kD k24, fz.keep0 k24.k, by omega, e3, ea⟩
  · left
    have e : i = ds.length := by omega
    subst e
    rw [List.drop_length] at ec
    cases ec
    rw [List.append_nil] at ea
    subst ea
    exact ⟨ys (Nat.le_refl _), q (.ref D) H2 (k1.trans kk) ⟨D, rfl, k1.k.fresh hD, _, eD, .lst fz⟩⟩
end
def sYes : AE → Rs Bool := fun _ => .ok true
abbrev DTs (X : Cx) (W : WX) (ifs : List Expr) (tt : AE → Rs Bool) : Prop := PTs X ifs (tTs X.K W tt)
theorem pts_mono {X : Cx} {e : List Expr} {t t' : TT} (h : PTs X e t) (q : ∀ σ H Q, t' σ H Q → t σ H Q) : PTs X e t' := ⟨fun pins s σ H Q I z => h.run pins s σ H Q I (q _ _ _ z)⟩
section
variable {X : Cx} {W : WX} {elt tg iter : Expr} {ifs : List Expr} {scope : Scope} {own : List (Str × Nat)} {pos : Pos} {it : AE → Rs (List PyData)} {ls ts : List Nat} {t : TgM} {tt : AE → Rs Bool} {te : AE → Rs PyData}
theorem dts_nil : DTs X W [] sYes := pts_mono pts_nil fun σ H Q ⟨c, σa, Z, q⟩ => q H (Kp.refl Z)
theorem dts_one {e : Expr} (h : DT X W e tt) : DTs X W [e] tt := pts_one h
theorem de_lc (hc : X.calm = true) (hN : X.N.Nodup) (hi : DI X W tg iter it ls) (ok : blkC X.N X.env.scope scope own = true)
    (hg : ∀ (s : Shared) (H : Hp) (C : Addr) (cl : List (Str × Addr)) (fp : List Addr), DG (X.blk s H scope (compEnvC scope cl C X.env) fp) tg t ts)
    (ht : ∀ (s : Shared) (H : Hp) (C : Addr) (cl : List (Str × Addr)) (fp : List Addr), DTs (X.blk s H scope (compEnvC scope cl C X.env) fp) W0 ifs tt)
    (he : ∀ (s : Shared) (H : Hp) (C : Addr) (cl : List (Str × Addr)) (fp : List Addr), DF (X.blk s H scope (compEnvC scope cl C X.env) fp) W0 elt te)
    (hsub : ∀ i ∈ ts, i ∈ own.map (·.2) := by decide) (hs : ∀ x, foldedSetIterable iter X.env x = pure x := by intro _; rfl) :
    DE X W (.ListComp elt [⟨tg, iter, ifs, 0⟩] scope pos) (eLc it (own.map (·.2)) t tt te) := ⟨fun pins s σ H Q I h =>
  (pe_lc hc hN hi (blkOk_by ok) (fun s H C cl fp => (hg s H C cl fp).pg) ht he hs).run pins s σ H Q I (t_lc (hg s H 0 [] []).ok hsub h)⟩
theorem ds_setLc {i : Nat} {y : Str} {py spos : Pos} (hc : X.calm = true) (hN : X.N.Nodup) (v : SO X.N X.env.scope i y) (hi : DI X W tg iter it ls) (ok : blkC X.N X.env.scope scope own = true)
    (hg : ∀ (s : Shared) (H : Hp) (C : Addr) (cl : List (Str × Addr)) (fp : List Addr), DG (X.blk s H scope (compEnvC scope cl C X.env) fp) tg t ts)
    (ht : ∀ (s : Shared) (H : Hp) (C : Addr) (cl : List (Str × Addr)) (fp : List Addr), DTs (X.blk s H scope (compEnvC scope cl C X.env) fp) W0 ifs tt)
    (he : ∀ (s : Shared) (H : Hp) (C : Addr) (cl : List (Str × Addr)) (fp : List Addr), DF (X.blk s H scope (compEnvC scope cl C X.env) fp) W0 elt te)
    (hsw : swapsWith (.ListComp elt [⟨tg, iter, ifs, 0⟩] scope pos) (some (.Name y py)) spos.line X.env = pure true) (hsub : ∀ i ∈ ts, i ∈ own.map (·.2) := by decide) (hs : ∀ x, foldedSetIterable iter X.env x = pure x := by intro _; rfl) :
    DS X W (.Assign [.Name y py] (.ListComp elt [⟨tg, iter, ifs, 0⟩] scope pos) spos) (sSet i (eLc it (own.map (·.2)) t tt te)) := ⟨fun pins s σ H D I h =>
  (ps_setLc hc hN v.n v.l hsw hi (blkOk_by ok) (fun s H C cl fp => (hg s H C cl fp).pg) ht he hs).run pins s σ H D I (by
    obtain ⟨c, σa, Z, q⟩ := h
    exact t_lc (hg s H 0 [] []).ok hsub ⟨c, σa, Z, (GoS.go Z q).mono fun av q v H1 k1 r1 => st_ok Z q k1 r1⟩)⟩
end
end DL
namespace DL
open PySem PySem.Spec PyProof.Rows L2
/-- the whole numbers of a list of such -/
def intsD : List PyData → Option (List Int)
  | [] => some []
  | .int i :: l => (intsD l).map (i :: ·)
  | _ => none
theorem intsD_eq : ∀ {l : List PyData} {ns : List Int}, intsD l = some ns → l = ns.map PyData.int
  | [], _, h => by cases h; rfl
  | .int i :: l, _, h => by
    unfold intsD at h
    cases e : intsD l with
    | none => rw [e] at h; cases h
    | some ms => rw [e] at h; cases h; rw [intsD_eq e]; rfl
  | .none :: _, _, h => by cases h
  | .bool _ :: _, _, h => by cases h
  | .str _ :: _, _, h => by cases h
  | .list _ :: _, _, h => by cases h
  | .tuple _ :: _, _, h => by cases h
  | .dict _ :: _, _, h => by cases h
@[simp] theorem intsD_map (ns : List Int) : intsD (ns.map PyData.int) = some ns := by
  induction ns with
  | nil => rfl
  | cons n ns ih => show (intsD (ns.map PyData.int)).map (n :: ·) = _; rw [ih]; rfl
theorem fz_ints {K : Fr} {P : Pd} {H : Hp} : ∀ {xs : List V} {ns : List Int}, FzA K P H xs (ns.map PyData.int) → xs = ns.map V.int
  | _, [], h => by cases h; rfl
  | _, n :: ns, h => by
    cases h with
    | cons a b =>
      cases a
      rw [fz_ints b]
      rfl
def tupleD : List PyData → Option AV
  | [.list l] => some (dv (.tuple l))
  | [.tuple l] => some (dv (.tuple l))
  | _ => none
def listD : List PyData → Option AV
  | [.list l] => some (dn (.list l))
  | [.tuple l] => some (dn (.list l))
  | _ => none
def sumD : List PyData → Option AV
  | [.list l] => (intsD l).map fun ns => dv (.int ns.sum)
  | _ => none
/-- the least, the greatest -/
def minI : List Int → Option Int
  | [] => none
  | n :: ns => some (ns.foldl (fun m x => if x < m then x else m) n)
def maxI : List Int → Option Int
  | [] => none
  | n :: ns => some (ns.foldl (fun m x => if x > m then x else m) n)
theorem minI_spec : ∀ (ns : List Int) (n : Int), (ns.foldl (fun m x => if x < m then x else m) n) ∈ n :: ns ∧ ∀ y ∈ n :: ns, (ns.foldl (fun m x => if x < m then x else m) n) ≤ y
  | [], n => by simp
  | k :: ns, n => by
    obtain ⟨h1, h2⟩ := minI_spec ns (if k < n then k else n)
    rw [List.foldl_cons]
    refine ⟨?_, fun y hy => ?_⟩
    · rcases List.mem_cons.mp h1 with h | h
      · rw [h]; split <;> simp
      · exact List.mem_cons_of_mem _ (List.mem_cons_of_mem _ h)
    · have h0 := h2 _ List.mem_cons_self
      rcases List.mem_cons.mp hy with rfl | hy
      · refine Int.le_trans h0 ?_; split <;> omega
      · rcases List.mem_cons.mp hy with rfl | hy
        · refine Int.le_trans h0 ?_; split <;> omega
        · exact h2 y (List.mem_cons_of_mem _ hy)
theorem maxI_spec : ∀ (ns : List Int) (n : Int), (ns.foldl (fun m x => if x > m then x else m) n) ∈ n :: ns ∧ ∀ y ∈ n :: ns, y ≤ (ns.foldl (fun m x => if x > m then x else m) n)
  | [], n => by simp
  | k :: ns, n => by
    obtain ⟨h1, h2⟩ := maxI_spec ns (if k > n then k else n)
    rw [List.foldl_cons]
    refine ⟨?_, fun y hy => ?_⟩
    · rcases List.mem_cons.mp h1 with h | h
      · rw [h]; split <;> simp
      · exact List.mem_cons_of_mem _ (List.mem_cons_of_mem _ h)
    · have h0 := h2 _ List.mem_cons_self
      rcases List.mem_cons.mp hy with rfl | hy
      · refine Int.le_trans ?_ h0; split <;> omega
      · rcases List.mem_cons.mp hy with rfl | hy
        · refine Int.le_trans ?_ h0; split <;> omega
        · exact h2 y (List.mem_cons_of_mem _ hy)
def min1D : List PyData → Option AV
  | [.list l] => (intsD l).bind fun ns => (minI ns).map fun i => dv (.int i)
  | _ => none
def max1D : List PyData → Option AV
  | [.list l] => (intsD l).bind fun ns => (maxI ns).map fun i => dv (.int i)
  | _ => none
section
variable {X : Cx} {W : WX} {e : Expr} {gs : AL} {pos p : Pos}
theorem de_tuple1 (hg : Gl X "tuple") (hm : X.mg "tuple" = none) (ha : DAr X W [e] gs) (he : starEach [e] X.env = (false, eval e X.env) :: starEach [] X.env := by rfl) : DE X W (.Call (.Name "tuple" p) [e] [] pos) (eCall tupleD gs) := de_callTy call_tuple_of (fun c σa σ H vs ds av Q Z h ev q => by
  unfold tupleD at ev
  split at ev
  · cases ev
    obtain ⟨v, rfl, hb⟩ := brA1 h
    obtain ⟨a, xs, rfl, r, f⟩ := br_lst hb
    exact ⟨_, _, rfl, .inl ⟨.inl (.inl r), fin_tup Z q f⟩⟩
  · cases ev
    obtain ⟨v, rfl, hb⟩ := brA1 h
    obtain ⟨a, xs, rfl, r, f⟩ := br_tup hb
    exact ⟨_, _, rfl, .inr ⟨r, fin_v Z q (.tup r f)⟩⟩
  · cases ev) hg hm PyProof.Rows.boot_tuple ha (he := he)
theorem de_list1 (hg : Gl X "list") (hm : X.mg "list" = none) (ha : DAr X W [e] gs) (he : starEach [e] X.env = (false, eval e X.env) :: starEach [] X.env := by rfl) : DE X W (.Call (.Name "list" p) [e] [] pos) (eCall listD gs) := de_callTy call_list_of (fun c σa σ H vs ds av Q Z h ev q => by
  unfold listD at ev
  split at ev
  · cases ev
    obtain ⟨v, rfl, hb⟩ := brA1 h
    obtain ⟨a, xs, rfl, r, f⟩ := br_lst hb
    exact ⟨_, _, rfl, .inl (.inl (.inl r)), fin_lst Z q f⟩
  · cases ev
    obtain ⟨v, rfl, hb⟩ := brA1 h
    obtain ⟨a, xs, rfl, r, f⟩ := br_tup hb
    exact ⟨_, _, rfl, .inr r, fin_lst Z q f⟩
  · cases ev) hg hm PyProof.Rows.boot_list ha (he := he)
theorem de_sum1 (hc : X.calm = true) (hg : Gl X "sum") (hm : X.mg "sum" = none) (ha : DAr X W [e] gs) (he : starEach [e] X.env = (false, eval e X.env) :: starEach [] X.env := by rfl) : DE X W (.Call (.Name "sum" p) [e] [] pos) (eCall sumD gs) := de_callB (cr_sum hc) (fun c σa σ H vs ds av Q Z h ev q => by
  unfold sumD at ev
  split at ev
  · rename_i l
    cases en : intsD l with
    | none => rw [en] at ev; cases ev
    | some ns =>
      rw [en] at ev; cases ev
      obtain ⟨v, rfl, hb⟩ := brA1 h
      rw [intsD_eq en] at hb
      obtain ⟨a, xs, rfl, r, f⟩ := br_lst hb
      rw [fz_ints f] at r
      exact ⟨_, _, rfl, .inl (.inl r), fin_v Z q (.int _)⟩
  · cases ev) hg hm boot_sum ha (he := he)
theorem de_min1 (hc : X.calm = true) (hg : Gl X "min") (hm : X.mg "min" = none) (ha : DAr X W [e] gs) (he : starEach [e] X.env = (false, eval e X.env) :: starEach [] X.env := by rfl) : DE X W (.Call (.Name "min" p) [e] [] pos) (eCall min1D gs) := de_callB (cr_min hc) (fun c σa σ H vs ds av Q Z h ev q => by
  unfold min1D at ev
  split at ev
  · rename_i l
    cases en : intsD l with
    | none => rw [en] at ev; cases ev
    | some ns =>
      rw [en] at ev
      cases ns with
      | nil => cases ev
      | cons n ns =>
        cases ev
        obtain ⟨v, rfl, hb⟩ := brA1 h
        rw [intsD_eq en] at hb
        obtain ⟨a, xs, rfl, r, f⟩ := br_lst hb
        rw [fz_ints f] at r
        obtain ⟨m1, m2⟩ := minI_spec ns n
        refine ⟨_, _, rfl, .inl (.inl r), Nat.succ_pos _, fun m hm hle => ?_⟩
        have : m = ns.foldl (fun m x => if x < m then x else m) n := Int.le_antisymm (hle _ m1) (m2 _ hm)
        rw [this]
        exact fin_v Z q (.int _)
  · cases ev) hg hm boot_min ha (he := he)
theorem de_max1 (hc : X.calm = true) (hg : Gl X "max") (hm : X.mg "max" = none) (ha : DAr X W [e] gs) (he : starEach [e] X.env = (false, eval e X.env) :: starEach [] X.env := by rfl) : DE X W (.Call (.Name "max" p) [e] [] pos) (eCall max1D gs) := de_callB (cr_max hc) (fun c σa σ H vs ds av Q Z h ev q => by
  unfold max1D at ev
  split at ev
  · rename_i l
    cases en : intsD l with
    | none => rw [en] at ev; cases ev
    | some ns =>
      rw [en] at ev
      cases ns with
      | nil => cases ev
      | cons n ns =>
        cases ev
        obtain ⟨v, rfl, hb⟩ := brA1 h
        rw [intsD_eq en] at hb
        obtain ⟨a, xs, rfl, r, f⟩ := br_lst hb
        rw [fz_ints f] at r
        obtain ⟨m1, m2⟩ := maxI_spec ns n
        refine ⟨_, _, rfl, .inl (.inl r), Nat.succ_pos _, fun m hm hle => ?_⟩
        have : m = ns.foldl (fun m x => if x > m then x else m) n := Int.le_antisymm (m2 _ hm) (hle _ m1)
        rw [this]
        exact fin_v Z q (.int _)
  · cases ev) hg hm boot_max ha (he := he)
end
end DL
namespace DL
open PySem PySem.Spec PyProof.Rows L2
/-- the scope of a generator expression: own names with their slots, captured ones, globals -/
structure GeS (N : List Str) (sc scope : Scope) (own : List (Str × Nat)) : Prop where
  kind : scope.kind = .function
  co : scope.isCoroutine = false
  nocell : ∀ y ∈ scope.names, y.2 ≠ .cell
  dot : scope.names.lookup (".0" : Str) = some NameKind.local
  free : ∀ y ∈ scope.names, y.2 = .free → sc.names.lookup y.1 = some .cell ∨ sc.names.lookup y.1 = some .free
  ix : ∀ p ∈ own, N[p.2]? = some p.1
  loc : ∀ y ∈ scope.names, y.2 = .local → y.1 ∈ own.map (·.1) ∨ y.1 ∉ N
abbrev genV (X : Cx) (scope : Scope) (C : Addr) (code : Value) : Env := genEnv scope (cloFrom X.env.cells scope.names []) C code builtinsNs X.env
/-- the context of its body -/
def genCx (X : Cx) (Ag : Around) (s : Shared) (H : Hp) (genv : Env) (fp : List Addr) : Cx :=
  { X with A := Ag, s_0 := s, H_0 := H, env := genv, outer := X.stack, stack := genv :: X.stack, ex := fp, fn := fun _ => false, calm := true, pn := [], xe := fun _ _ => False }
section
variable {X : Cx} {pins : List (Addr × Obj)} {σ : L2.St} {H : Hp} {s : Shared}
theorem gen_start {Ag : Around} {scope : Scope} {own : List (Str × Nat)} {fp : List Addr} {it code : Value} {h₁ : Heap} {g' : Array GenState} {tk : Nat} (I : Inv X pins σ H s) (S : GeS X.N X.env.scope scope own) (hN : X.N.Nodup)
    (hfp : ∀ b ∈ fp, FpOk X pins H b ∧ b < s.heap.objs.size) (hA : Ag.handled = none) (hfr : Ag.frames = some (genV X scope s.heap.objs.size code :: X.stack))
    (hns : h₁.Ns s.heap.objs.size fun y => if y = (".0" : Str) then some it else none) (kp : ∀ b o, s.heap.get? b = some o → h₁.get? b = some o) (hb : AllBare g') :
    Inv (genCx X Ag s H (genV X scope s.heap.objs.size code) fp) [] (wipe σ (own.map (·.2))) H { s with heap := h₁, gens := g', toks := tk } := by
  have hfree : ∀ y ∈ scope.names, y.2 = .free → ∃ c, X.env.cells.lookup y.1 = some c := fun y hy e => by
    rcases S.free y hy e with k | k
    · exact I.ok.has _ (.inl k)
    · exact I.ok.has _ (.inr k)
  have cm : ∀ {y c}, (cloFrom X.env.cells scope.names []).lookup y = some c → X.env.cells.lookup y = some c := fun {y c} e => by
    rcases cloFrom_mem (PySem.mem_of_lookup e) with hm | ⟨h1, h2⟩
    · cases hm
    · obtain ⟨c1, hc⟩ := hfree _ h1 rfl
      have hc : X.env.cells.lookup y = some c1 := hc
      have e2 : c = c1 := by
        rw [h2, hc] <;> rfl
      rw [e2]
      exact hc
  have look : ∀ {y}, scope.names.lookup y = some .free → ∃ c, (cloFrom X.env.cells scope.names []).lookup y = some c := fun {y} hl => by
    have hy : (y, NameKind.free) ∈ scope.names := PySem.mem_of_lookup hl
    exact mem_lookup (cloFrom_has (cells := X.env.cells) (acc := []) hy)
  have cellK : ∀ {c : Addr} {v : Option Value}, s.heap.IsCell c v → h₁.IsCell c v := fun {c v} ⟨o, ho, hd⟩ => ⟨o, kp _ _ ho, hd⟩
  have e0 := I.env0
  refine ⟨⟨e0.mod, S.kind, I.ok.glob, rfl, Nat.le_refl _, fun y z c e1 e2 => I.ok.inj y z c (cm e1) (cm e2), fun y hy => ?_, fun y c z _ => ?_, fun _ => hA, hfr, .inr ⟨rfl, rfl⟩, fun b hb => ⟨?_, fun y c e z => ?_⟩, e0.bs, e0.bsz, fun b o e hb => ?_, fun b hb z => ?_, e0.funs, e0.frf⟩,
    rfl, hb, Un.kept kp, ⟨_, hns, fun i y v e1 e2 e3 => ?_⟩, fun y c e => ?_, e0.hok.fresh (Nat.le_refl _), fun y c e => I.freeC y c (cm e), fun q hq => absurd (show q ∈ ([] : List (Addr × Obj)) ++ [] from hq) (by simp), e0.hok.kept kp, by rw [wipe_length]; exact I.len⟩
  · have hy : scope.names.lookup y = some .cell ∨ scope.names.lookup y = some .free := hy
    rcases hy with hy | hy
    · exact absurd rfl (S.nocell _ (PySem.mem_of_lookup hy))
    · exact look hy
  · have z : false = true := z
    cases z
  · exact Nat.ne_of_lt (hfp b hb).2
  · exact (hfp b hb).1.2.2.2.2.1 y c (cm e) z
  · rcases (hfp b hb).1.2.2.2.1 with z | z
    · exact I.ok.noex b o e z
    · exact absurd (Nat.lt_of_lt_of_le (Heap.lt_size e) (Nat.le_trans I.ok.bsz z)) (Nat.lt_irrefl _)
  · rcases List.mem_cons.mp (I.stkSub b z) with z | z
    · exact (hfp b hb).1.2.1 z
    · exact (hfp b hb).1.2.2.1 z
  · obtain ⟨e2, hne⟩ := wipe_some e2
    have e3 : Vis scope y := e3
    rcases e3 with k | k | k
    · rcases S.loc _ (PySem.mem_of_lookup k) rfl with z | z
      · obtain ⟨p, hp, hpy⟩ := List.mem_map.mp z
        have e4 := S.ix p hp
        have : p.1 = y := hpy
        rw [this] at e4
        exact absurd (List.mem_map.mpr ⟨p, hp, nodup_ix hN e4 e1⟩) hne
      · exact absurd (List.mem_of_getElem? e1) z
    · exact absurd rfl (S.nocell _ (PySem.mem_of_lookup k))
    · obtain ⟨m, hn, hl⟩ := I.loc
      have hvis : Vis X.env.scope y := (S.free _ (PySem.mem_of_lookup k) rfl).elim (fun k => .inr (.inl k)) (fun k => .inr (.inr k))
      obtain ⟨w', r, q⟩ := hl i y v e1 e2 hvis
      obtain ⟨c2, h2⟩ := look k
      refine ⟨w', r, .inr ⟨.inr k, c2, h2, ?_⟩⟩
      have c1 := cm h2
      rcases q with ⟨k', _⟩ | ⟨_, c3, e', z⟩
      · have k' : X.env.scope.names.lookup y = some .local := k'
        rcases S.free _ (PySem.mem_of_lookup k) rfl with k2 | k2 <;> rw [show X.env.scope.names.lookup y = _ from k2] at k' <;> cases k'
      · rw [c1] at e'
        cases e'
        exact cellK z
  · obtain ⟨w', z⟩ := I.cell y c (cm e)
    exact ⟨w', cellK z⟩
end
/-- asleep: nothing but the table of generators may change -/
structure Asl (s s' : Shared) : Prop where
  heap : s'.heap = s.heap
  os : s'.os = s.os
  bare : AllBare s'.gens
theorem inv_asl {X : Cx} {pins : List (Addr × Obj)} {σ : L2.St} {H : Hp} {s s' : Shared} (I : Inv X pins σ H s) (a : Asl s s') : Inv X pins σ H s' :=
  I.call' (ch := []) a.os (by rw [a.heap]; exact Un.refl) (by rw [a.heap]; exact I.hok) a.bare fun b hb => absurd hb List.not_mem_nil
/-- H' is H but for the table at P, and what is new -/
def Tabd (P : Addr) (H H' : Hp) : Prop := TabC H' P ∧ ∀ b, b ≠ P → H b ≠ none → H' b = H b
theorem tab_new {H : Hp} {P c : Addr} {q : PySem.Str} {ps : Array Value} {pos : Pos} (h1 : H P = some (.tbl ps)) (h2 : TriplesOk ps.toList) (h3 : ∀ (pos : Pos) (cv : Value), codeAmong pos ps.toList = some cv → ∃ (c : Addr) (q : PySem.Str), cv = .ref c ∧ H c = some (LamX.CodeO c q)) (nC : H c = none) :
    Tabd P H (upd (upd H P (.tbl (ps ++ #[rawInt pos.line, rawInt pos.col, .ref c]))) c (LamX.CodeO c q)) := by
  have nPc : P ≠ c := ne_of_none h1 nC
  have eL : (ps ++ #[rawInt pos.line, rawInt pos.col, .ref c]).toList = ps.toList ++ [rawInt pos.line, rawInt pos.col, .ref c] := by simp
  refine ⟨⟨_, by rw [upd_ne nPc, upd_same], by rw [eL]; exact PySem.TriplesOk_snoc _ _ _ _ h2, fun p' cv hc => ?_⟩, fun b hb hn => ?_⟩
  · rw [eL] at hc
    rcases LamX.among_app _ h2 hc with z | z
    · obtain ⟨c0, q0, e1, e2⟩ := h3 p' cv z
      refine ⟨c0, q0, e1, ?_⟩
      rw [upd_ne (ne_of_none e2 nC), upd_ne (fun z => ?_)]
      · exact e2
      · rw [z, h1] at e2
        exact LamX.codeO_ne ps (Option.some.inj e2).symm
    · exact ⟨c, q, z, upd_same⟩
  · rw [upd_ne (fun z => hn (by rw [z]; exact nC)), upd_ne hb]
/-- all (k = true), any (k = false) over a generator expression: a turn's element is a Bool; the first that is not k ends it -/
def tGx (wi : TI) (g : TG) (tt : TT) (te : TE) (vs : List Nat) (k : Bool) (P : Addr) : TE := fun σ H Q => wi σ H fun J H1 => TabC H1 P ∧ ∀ H1', Tabd P H1 H1' → ∃ W : Nat → Nat → Hp → Prop, (∃ m, W 0 m H1') ∧ ∀ i m H, W i m H →
  (J.stop i H ∧ Q (.bl k) H) ∨ (J.go i H ∧ ∃ Nx : Hp → Prop, (∀ H', Nx H' → ∃ m', m' < m ∧ W (i + 1) m' H') ∧ ∀ x H', J.yld i H x H' → g x (wipe σ vs) H' fun σ2 H2 => wipe σ2 vs = wipe σ vs ∧ tt σ2 H2 fun b H3 =>
    if b = true then te σ2 H3 fun y H4 => ∃ c, y = .bl c ∧ (c = k → Nx H4) ∧ (c ≠ k → Q (.bl c) H4) else Nx H3)
section
variable {G : Cx} {pins0 : List (Addr × Obj)} {σ : L2.St} {vs : List Nat} {Q : VK} {k : Bool}
def gxY (G : Cx) (pins0 : List (Addr × Obj)) (Q : VK) (k : Bool) : Protocol := fun _ _ v s kap => ∃ b H σ', v = .bool b ∧ Inv G pins0 σ' H s ∧ (b ≠ k → Q (.bl b) H) ∧ (b = k → ∀ s', Asl s s' → kap (.send .none) s')
def gxR (G : Cx) (pins0 : List (Addr × Obj)) (Q : VK) (k : Bool) : GenEnd := fun _ _ r s => r = .ok .next ∧ ∃ σ' H, Inv G pins0 σ' H s ∧ Q (.bl k) H
theorem seg_gl {A : Around} {elt tg iter : Expr} {ifs : List Expr} {scope : Scope} {pos : Pos} {J : It} {fp : List Addr} {it : Addr} {tn : Nat → Heap → Prop} {g : TG} {tt : TT} {te : TE} {W : Nat → Nat → Hp → Prop}
    (hA : A.over (.compLoop (.GeneratorExp elt [⟨tg, iter, ifs, 0⟩] scope pos) 0 (.ref it) .none G.env) [] = G.A) (hxe : G.xe = fun _ _ => False) (hcalm : G.calm = true) (hco : G.env.scope.isCoroutine = false)
    (T : Turn G.prog G.w G.K tg J fp it tn) (pg : PG G tg g) (pt : PTs G ifs tt) (pe : PE G elt te) (hex : ∀ b ∈ fp, b ∈ G.ex) (hpn : G.pn = []) (hp0 : ∀ p ∈ pins0, p.1 ∉ fp)
    (turn : ∀ i m H, W i m H → (J.stop i H ∧ Q (.bl k) H) ∨ (J.go i H ∧ ∃ Nx : Hp → Prop, (∀ H', Nx H' → ∃ m', m' < m ∧ W (i + 1) m' H') ∧ ∀ x H', J.yld i H x H' → g x (wipe σ vs) H' fun σ2 H2 => wipe σ2 vs = wipe σ vs ∧ tt σ2 H2 fun b H3 =>
      if b = true then te σ2 H3 fun y H4 => ∃ c, y = .bl c ∧ (c = k → Nx H4) ∧ (c ≠ k → Q (.bl c) H4) else Nx H3)) :
    ∀ (m n i : Nat) (s₀ s : Shared) (H : Hp), m < n → Inv G pins0 (wipe σ vs) H s → tn i s.heap → (∀ b ∈ fp, H b = none) → W i m H →
      Seg (model G.prog G.w) A (gxR G pins0 Q k) (gxY G pins0 Q k) n s₀ (.compLoop (.GeneratorExp elt [⟨tg, iter, ifs, 0⟩] scope pos) 0 (.ref it) .none G.env)
        ((model G.prog G.w).den (.compLoop (.GeneratorExp elt [⟨tg, iter, ifs, 0⟩] scope pos) 0 (.ref it) .none G.env)) [] s := by
  have stat : ∀ {σ' : L2.St} {H' : Hp} {s' : Shared}, Inv G pins0 σ' H' s' → (∀ b ∈ fp, H' b = none) → ∀ b ∈ fp, FpOk G pins0 H' b := fun {σ' H' s'} I' hn b hb =>
    ⟨hn b hb, (I'.ok.exf b (hex b hb)).1, I'.ok.exfs b (hex b hb), .inl (hex b hb), fun x c e => (I'.ok.exf b (hex b hb)).2 x c e, fun p hp z => by
      rw [hpn] at hp
      exact hp0 p hp (z ▸ hb)⟩
  intro m
  induction m using Nat.strongRecOn with
  | ind m ih =>
  intro n i s₀ s H hmn I st hn w
  show Seg _ A _ _ _ s₀ _ ((compTurn (.GeneratorExp elt [⟨tg, iter, ifs, 0⟩] scope pos) 0 (.ref it) .none G.env).onRaise (leaving G.env)) [] s
  rw [compTurn_gen, Sem.onRaise_eq_wrap]
  refine seg_bind_wrap (wpAny_standAt ?_)
  rcases turn i m H w with ⟨stop, qq⟩ | ⟨go, Nx, hNx, step⟩
  · have td := T.done G rfl rfl rfl hcalm i pins0 s _ H (fun _ _ => False) I (stat I hn) st stop
    refine seg_bind_wrap ?_
    rw [hA]
    refine thnF td fun r s6 ⟨hr, I6⟩ => ?_
    subst hr
    exact seg_end (.ok .next) ⟨rfl, _, _, I6, qq⟩
  · have ti := T.item G rfl rfl rfl hcalm i pins0 s _ H (fun _ _ => False) I (stat I hn) st go
    refine seg_bind_wrap ?_
    rw [hA]
    refine thnF ti fun r s6 ⟨u, hr, h6⟩ => ?_
    subst hr
    refine seg_bind_wrap ?_
    rw [hA]
    refine thnF h6 fun _ s7 ⟨x, H7, I7, r7, y7, st7, n7⟩ => ?_
    have I7' := I7.pinned (stat I7 n7) (T.obj _ _ st7)
    refine seg_bind_wrap ?_
    rw [hA]
    have pgr := pg.run _ s7 _ H7 x u _ I7' r7 (step x H7 y7)
    rw [hxe] at pgr
    refine thnF pgr fun _ s8 ⟨σ8, H8, I8, hw8, q8⟩ => ?_
    refine seg_bind_wrap ?_
    rw [hA]
    have ptr := pt.run _ s8 σ8 H8 _ I8 q8
    rw [hxe] at ptr
    refine thnF ptr fun b s9 ⟨H9, I9, q9⟩ => ?_
    -- the turn's end
    have fin : ∀ {s' : Shared} {H' : Hp}, Inv G (pins0 ++ pinsAt fp s7.heap) σ8 H' s' → Nx H' → ∃ m', m' < m ∧ W (i + 1) m' H' ∧ Inv G pins0 (wipe σ vs) H' s' ∧ tn (i + 1) s'.heap ∧ ∀ b ∈ fp, H' b = none := fun {s' H'} I' nx => by
      obtain ⟨m', hm, w'⟩ := hNx H' nx
      have pin' : ∀ b ∈ fp, ∀ o, s7.heap.get? b = some o → s'.heap.get? b = some o ∧ H' b = none := fun b hb o e =>
        let z := I'.pin (b, o) (List.mem_append_right _ (List.mem_append_right _ (mem_pinsAt hb e)))
        ⟨z.1, z.2.1⟩
      have hl : (wipe σ vs).length = σ8.length := by rw [← hw8, wipe_length]
      refine ⟨m', hm, w', (I'.unpinned (pins := pins0)).weak hl (fun j v e => ?_), T.keep _ _ _ st7 fun b hb o e => (pin' b hb o e).1, fun b hb => ?_⟩
      · rw [← hw8] at e
        exact (wipe_some e).1
      · obtain ⟨o, e, _⟩ := T.obj _ _ st7 b hb
        exact (pin' b hb o e).2
    cases b with
    | false =>
      simp only [Bool.false_eq_true, if_false] at q9 ⊢
      obtain ⟨m', hm, w', I', st', n'⟩ := fin I9 q9
      exact seg_again rfl (ih m' hm n (i + 1) s₀ s9 H9 (by omega) I' st' n' w')
    | true =>
      simp only [if_true] at q9 ⊢
      have hy : ∀ v, yieldOut G.env v = yieldValue v := fun v => by simp only [yieldOut, hco, Bool.false_eq_true, if_false]
      simp only [hy]
      rw [Sem.bind_eq_wrap', Sem.bind_eq_wrap', Sem.wrap_wrap, Sem.wrap_wrap]
      refine seg_wrap ?_
      rw [hA]
      have per := pe.run _ s9 σ8 H9 _ I9 q9
      rw [hxe] at per
      refine thnF per fun z s10 ⟨yv, H10, I10, r10, c, ey, hc1, hc2⟩ => ?_
      subst ey
      have r10 : z = Value.bool c := r10
      subst r10
      obtain ⟨n', rfl⟩ : ∃ n', n = n' + 1 := ⟨n - 1, by omega⟩
      refine seg_at (seg_yield rfl rfl rfl ⟨c, H10, σ8, rfl, I10.unpinned, hc2, fun hck s' hs => ?_⟩)
      obtain ⟨m', hm, w', I', st', n2⟩ := fin I10 (hc1 hck)
      exact seg_again rfl (ih m' hm n' (i + 1) s' s' H10 (by omega) (inv_asl I' hs) (by rw [hs.heap]; exact st') n2 w')
end
section
variable {G : Cx} {pins0 : List (Addr × Obj)} {σ : L2.St} {vs : List Nat} {Q : VK} {k : Bool}
theorem seg_gs {A : Around} {elt tg iter : Expr} {ifs : List Expr} {scope : Scope} {pos : Pos} {J : It} {fp : List Addr} {it : Addr} {tn : Nat → Heap → Prop} {n : Nat} {s₀ s : Shared}
    (T : Turn G.prog G.w G.K tg J fp it tn) (st : tn 0 s.heap)
    (loop : Seg (model G.prog G.w) A (gxR G pins0 Q k) (gxY G pins0 Q k) n s₀ (.compLoop (.GeneratorExp elt [⟨tg, iter, ifs, 0⟩] scope pos) 0 (.ref it) .none G.env)
        ((model G.prog G.w).den (.compLoop (.GeneratorExp elt [⟨tg, iter, ifs, 0⟩] scope pos) 0 (.ref it) .none G.env)) [] s) :
    Seg (model G.prog G.w) A (gxR G pins0 Q k) (gxY G pins0 Q k) n s₀ (.compStart (.GeneratorExp elt [⟨tg, iter, ifs, 0⟩] scope pos) 0 (.ref it) .none G.env)
        ((model G.prog G.w).den (.compStart (.GeneratorExp elt [⟨tg, iter, ifs, 0⟩] scope pos) 0 (.ref it) .none G.env)) [] s := by
  show Seg _ A _ _ _ s₀ _ ((compStart (.GeneratorExp elt [⟨tg, iter, ifs, 0⟩] scope pos) 0 (.ref it) .none G.env).onRaise (leaving G.env)) [] s
  unfold compStart
  rw [Sem.onRaise_eq_wrap]
  show Seg _ A _ _ _ s₀ _ ((ask >>= _).wrap _ _ _ _) [] s
  refine seg_bind_wrap (wpAny_askSetting ?_)
  split
  · exact seg_again rfl loop
  · first
      | exact seg_bind_wrap (wpAny_rule (seg_bind_wrap (wpAny_standAt (seg_bind_wrap (T.self _ 0 s _ _ st (seg_again rfl loop))))))
      | (refine seg_bind_wrap (wpAny_rule ?_); show Seg _ A _ _ _ s₀ _ ((standAt iter.pos >>= _).wrap _ _ _ _) [] s; exact seg_bind_wrap (wpAny_standAt (seg_bind_wrap (T.self _ 0 s _ _ st (seg_again rfl loop)))))
theorem all_loopG {A : Around} {a : Addr} {ob : Obj} {g : Nat} {R : Result → Shared → Prop} (hh : A.handled = none) (hd : A.depth < recursionLimit) (hg : ∀ h : Heap, h.get? a = some ob → h.IsGen a g)
    (hend : ∀ c σ' H s', Inv G [(a, ob)] σ' H s' → Q (.bl c) H → R (.ok (.ret (.bool c))) s') :
    ∀ (n : Nat) (s : Shared) (gs : GenState), s.heap.get? a = some ob → s.heap.NoLimit → s.gens[g]? = some gs → gs.Goes (model G.prog G.w) A.in1.in1 (gxR G [(a, ob)] Q true) (gxY G [(a, ob)] Q true) n (.send .none) (s.setGen g .running) →
      codeAny (model G.prog G.w) A (.builtin "all.loop" ⟨[.ref a], []⟩) R s := by
  intro n
  induction n with
  | zero =>
    intro s gs ha hl hgs hgo
    have hgl : g < s.gens.size := (Array.getElem?_eq_some_iff.mp hgs).1
    refine codeAny_builtin F.entry_all_loop ?_
    rw [Around.under_plainId F.plain_all_loop _]
    show wpAny _ A.in1 (pyNext (.ref a) >>= _) _ _ s
    refine wpAny_bind (GenW.wpAny_gsz (n := g + 1) hgl (wpAny_pyNext_genexpQ (A := A.in1) (P := fun _ _ s₁ => ∃ σ' H, Inv G [(a, ob)] σ' H s₁ ∧ Q (.bl true) H) hh hl hd (hg _ ha) hgs hgo (fun v s₁ gs' hbare hv hsz => ?_) (fun s₁ hp h' hk hsz => ?_)))
    · obtain ⟨b, H, σ', rfl, I, hc2, hk⟩ := hv
      have hsz1 : g < s₁.gens.size := by
        have q : (s₁.setGen g gs').gens.size = s₁.gens.size := GenW.setGen_size _ _ _
        have hsz' : g + 1 ≤ (s₁.setGen g gs').gens.size := hsz
        omega
      have hb1 : AllBare (s₁.setGen g gs').gens := L2.allBare_setGen I.bare hbare
      have I2 : Inv G [(a, ob)] σ' H (s₁.setGen g gs') := inv_asl I ⟨rfl, rfl, hb1⟩
      have ha1 : s₁.heap.get? a = some ob := (I.pin (a, ob) (List.mem_append_right _ List.mem_cons_self)).1
      refine wpAny_bind (wpAny_holding (wpAny_truthy_bool ?_))
      refine wpAny_bind (wpAny_letGo ?_)
      cases b with
      | true =>
        simp only [if_true]
        exact (hk rfl (s₁.setGen g gs') ⟨rfl, rfl, hb1⟩).elim
      | false =>
        simp only [Bool.false_eq_true, if_false]
        exact wpAny_bind (wpAny_rule (wpAny_pure (hend false σ' H _ I2 (hc2 (by decide)))))
    · obtain ⟨σ', H, I, q⟩ := hp
      have I2 : Inv G [(a, ob)] σ' H { s₁.setGen g .finished with heap := h' } := (inv_asl I ⟨rfl, rfl, L2.allBare_setGen I.bare rfl⟩ : Inv G [(a, ob)] σ' H (s₁.setGen g .finished)).kept hk
      exact wpAny_bind (wpAny_rule (wpAny_pure (hend true σ' H _ I2 q)))
  | succ n ih =>
    intro s gs ha hl hgs hgo
    have hgl : g < s.gens.size := (Array.getElem?_eq_some_iff.mp hgs).1
    refine codeAny_builtin F.entry_all_loop ?_
    rw [Around.under_plainId F.plain_all_loop _]
    show wpAny _ A.in1 (pyNext (.ref a) >>= _) _ _ s
    refine wpAny_bind (GenW.wpAny_gsz (n := g + 1) hgl (wpAny_pyNext_genexpQ (A := A.in1) (P := fun _ _ s₁ => ∃ σ' H, Inv G [(a, ob)] σ' H s₁ ∧ Q (.bl true) H) hh hl hd (hg _ ha) hgs hgo (fun v s₁ gs' hbare hv hsz => ?_) (fun s₁ hp h' hk hsz => ?_)))
    · obtain ⟨b, H, σ', rfl, I, hc2, hk⟩ := hv
      have hsz1 : g < s₁.gens.size := by
        have q : (s₁.setGen g gs').gens.size = s₁.gens.size := GenW.setGen_size _ _ _
        have hsz' : g + 1 ≤ (s₁.setGen g gs').gens.size := hsz
        omega
      have hb1 : AllBare (s₁.setGen g gs').gens := L2.allBare_setGen I.bare hbare
      have I2 : Inv G [(a, ob)] σ' H (s₁.setGen g gs') := inv_asl I ⟨rfl, rfl, hb1⟩
      have ha1 : s₁.heap.get? a = some ob := (I.pin (a, ob) (List.mem_append_right _ List.mem_cons_self)).1
      refine wpAny_bind (wpAny_holding (wpAny_truthy_bool ?_))
      refine wpAny_bind (wpAny_letGo ?_)
      cases b with
      | true =>
        simp only [if_true]
        refine wpAny_pure ⟨plainId_quiet F.plain_all_loop _, ih (s₁.setGen g gs') gs' ha1 I.nolimit (L2.setGen_at hsz1) ?_⟩
        exact hk rfl _ ⟨rfl, rfl, L2.allBare_setGen hb1 rfl⟩
      | false =>
        simp only [Bool.false_eq_true, if_false]
        exact wpAny_bind (wpAny_rule (wpAny_pure (hend false σ' H _ I2 (hc2 (by decide)))))
    · obtain ⟨σ', H, I, q⟩ := hp
      have I2 : Inv G [(a, ob)] σ' H { s₁.setGen g .finished with heap := h' } := (inv_asl I ⟨rfl, rfl, L2.allBare_setGen I.bare rfl⟩ : Inv G [(a, ob)] σ' H (s₁.setGen g .finished)).kept hk
      exact wpAny_bind (wpAny_rule (wpAny_pure (hend true σ' H _ I2 q)))
theorem any_loopG {A : Around} {a : Addr} {ob : Obj} {g : Nat} {R : Result → Shared → Prop} (hh : A.handled = none) (hd : A.depth < recursionLimit) (hg : ∀ h : Heap, h.get? a = some ob → h.IsGen a g)
    (hend : ∀ c σ' H s', Inv G [(a, ob)] σ' H s' → Q (.bl c) H → R (.ok (.ret (.bool c))) s') :
    ∀ (n : Nat) (s : Shared) (gs : GenState), s.heap.get? a = some ob → s.heap.NoLimit → s.gens[g]? = some gs → gs.Goes (model G.prog G.w) A.in1.in1 (gxR G [(a, ob)] Q false) (gxY G [(a, ob)] Q false) n (.send .none) (s.setGen g .running) →
      codeAny (model G.prog G.w) A (.builtin "any.loop" ⟨[.ref a], []⟩) R s := by
  intro n
  induction n with
  | zero =>
    intro s gs ha hl hgs hgo
    have hgl : g < s.gens.size := (Array.getElem?_eq_some_iff.mp hgs).1
    refine codeAny_builtin F.entry_any_loop ?_
    rw [Around.under_plainId F.plain_any_loop _]
    show wpAny _ A.in1 (pyNext (.ref a) >>= _) _ _ s
    refine wpAny_bind (GenW.wpAny_gsz (n := g + 1) hgl (wpAny_pyNext_genexpQ (A := A.in1) (P := fun _ _ s₁ => ∃ σ' H, Inv G [(a, ob)] σ' H s₁ ∧ Q (.bl false) H) hh hl hd (hg _ ha) hgs hgo (fun v s₁ gs' hbare hv hsz => ?_) (fun s₁ hp h' hk hsz => ?_)))
    · obtain ⟨b, H, σ', rfl, I, hc2, hk⟩ := hv
      have hsz1 : g < s₁.gens.size := by
        have q : (s₁.setGen g gs').gens.size = s₁.gens.size := GenW.setGen_size _ _ _
        have hsz' : g + 1 ≤ (s₁.setGen g gs').gens.size := hsz
        omega
      have hb1 : AllBare (s₁.setGen g gs').gens := L2.allBare_setGen I.bare hbare
      have I2 : Inv G [(a, ob)] σ' H (s₁.setGen g gs') := inv_asl I ⟨rfl, rfl, hb1⟩
      have ha1 : s₁.heap.get? a = some ob := (I.pin (a, ob) (List.mem_append_right _ List.mem_cons_self)).1
      refine wpAny_bind (wpAny_holding (wpAny_truthy_bool ?_))
      refine wpAny_bind (wpAny_letGo ?_)
      cases b with
      | false =>
        simp only [Bool.false_eq_true, if_false]
        exact (hk rfl (s₁.setGen g gs') ⟨rfl, rfl, hb1⟩).elim
      | true =>
        simp only [if_true]
        exact wpAny_bind (wpAny_rule (wpAny_pure (hend true σ' H _ I2 (hc2 (by decide)))))
    · obtain ⟨σ', H, I, q⟩ := hp
      have I2 : Inv G [(a, ob)] σ' H { s₁.setGen g .finished with heap := h' } := (inv_asl I ⟨rfl, rfl, L2.allBare_setGen I.bare rfl⟩ : Inv G [(a, ob)] σ' H (s₁.setGen g .finished)).kept hk
      exact wpAny_bind (wpAny_rule (wpAny_pure (hend false σ' H _ I2 q)))
  | succ n ih =>
    intro s gs ha hl hgs hgo
    have hgl : g < s.gens.size := (Array.getElem?_eq_some_iff.mp hgs).1
    refine codeAny_builtin F.entry_any_loop ?_
    rw [Around.under_plainId F.plain_any_loop _]
    show wpAny _ A.in1 (pyNext (.ref a) >>= _) _ _ s
    refine wpAny_bind (GenW.wpAny_gsz (n := g + 1) hgl (wpAny_pyNext_genexpQ (A := A.in1) (P := fun _ _ s₁ => ∃ σ' H, Inv G [(a, ob)] σ' H s₁ ∧ Q (.bl false) H) hh hl hd (hg _ ha) hgs hgo (fun v s₁ gs' hbare hv hsz => ?_) (fun s₁ hp h' hk hsz => ?_)))
    · obtain ⟨b, H, σ', rfl, I, hc2, hk⟩ := hv
      have hsz1 : g < s₁.gens.size := by
        have q : (s₁.setGen g gs').gens.size = s₁.gens.size := GenW.setGen_size _ _ _
        have hsz' : g + 1 ≤ (s₁.setGen g gs').gens.size := hsz
        omega
      have hb1 : AllBare (s₁.setGen g gs').gens := L2.allBare_setGen I.bare hbare
      have I2 : Inv G [(a, ob)] σ' H (s₁.setGen g gs') := inv_asl I ⟨rfl, rfl, hb1⟩
      have ha1 : s₁.heap.get? a = some ob := (I.pin (a, ob) (List.mem_append_right _ List.mem_cons_self)).1
      refine wpAny_bind (wpAny_holding (wpAny_truthy_bool ?_))
      refine wpAny_bind (wpAny_letGo ?_)
      cases b with
      | false =>
        simp only [Bool.false_eq_true, if_false]
        refine wpAny_pure ⟨plainId_quiet F.plain_any_loop _, ih (s₁.setGen g gs') gs' ha1 I.nolimit (L2.setGen_at hsz1) ?_⟩
        exact hk rfl _ ⟨rfl, rfl, L2.allBare_setGen hb1 rfl⟩
      | true =>
        simp only [if_true]
        exact wpAny_bind (wpAny_rule (wpAny_pure (hend true σ' H _ I2 (hc2 (by decide)))))
    · obtain ⟨σ', H, I, q⟩ := hp
      have I2 : Inv G [(a, ob)] σ' H { s₁.setGen g .finished with heap := h' } := (inv_asl I ⟨rfl, rfl, L2.allBare_setGen I.bare rfl⟩ : Inv G [(a, ob)] σ' H (s₁.setGen g .finished)).kept hk
      exact wpAny_bind (wpAny_rule (wpAny_pure (hend false σ' H _ I2 q)))
end
theorem inv_setGen {X : Cx} {pins : List (Addr × Obj)} {σ : L2.St} {H : Hp} {s : Shared} {gn : Nat} {x : GenState} (I : Inv X pins σ H s) (hx : x.bare = true) : Inv X pins σ H (s.setGen gn x) := inv_asl I ⟨rfl, rfl, L2.allBare_setGen I.bare hx⟩
theorem over_gl {A : Around} {elt : Expr} {gens : List Comprehension} {scope : Scope} {pos : Pos} {it : Value} {env : Env} : A.over (.compLoop (.GeneratorExp elt gens scope pos) 0 it .none env) [] = A.deeper env := rfl
abbrev gxObj (X : Cx) (g : Nat) (t1 t2 : Tok) : Obj := { cls := .type "generator", data := .fields #[.int g 0, .str "<genexpr>" t1, .str (X.env.qual ++ "<genexpr>") t2] }
/-- the generator a, ready -/
def GxMade (X : Cx) (pins : List (Addr × Obj)) (σ : L2.St) (k : Bool) (Q : VK) (a : Addr) (s : Shared) : Prop :=
  ∃ (G : Cx) (ob : Obj) (g n : Nat) (gs : GenState), s.heap.get? a = some ob ∧ (∀ h : Heap, h.get? a = some ob → h.IsGen a g) ∧ s.heap.NoLimit ∧ s.gens[g]? = some gs ∧
    gs.Goes (model X.prog X.w) X.A.in1.in1 (gxR G [(a, ob)] Q k) (gxY G [(a, ob)] Q k) n (.send .none) (s.setGen g .running) ∧ G.prog = X.prog ∧ G.w = X.w ∧
    ∀ c σ' H s', Inv G [(a, ob)] σ' H s' → Q (.bl c) H → EP X pins σ Q (.bool c) s'
section
variable {X : Cx} {pins : List (Addr × Obj)} {σ : L2.St} {H : Hp} {s : Shared}
theorem gx_made {c P : Addr} {elt tg iter : Expr} {ifs : List Expr} {scope : Scope} {own : List (Str × Nat)} {gpos : Pos} {wi : TI} {g : TG} {tt : TT} {te : TE} {k : Nat} {kb : Bool} {Q : VK} {Q' : Value → Shared → Prop}
    (hr : Room (k + 3) X.A) (TB : GxR.TabB X.base X.mg c P) (hcode : X.env.code = .ref c) (S : GeS X.N X.env.scope scope own) (hN : X.N.Nodup) (hi : PI X tg iter wi)
    (hb : ∀ (A : Around) (s : Shared) (H : Hp) (C : Addr) (code : Value) (fp : List Addr), Room k (A.deeper (genV X scope C code)) → PG (genCx X (A.deeper (genV X scope C code)) s H (genV X scope C code) fp) tg g ∧ PTs (genCx X (A.deeper (genV X scope C code)) s H (genV X scope C code) fp) ifs tt ∧ PE (genCx X (A.deeper (genV X scope C code)) s H (genV X scope C code) fp) elt te)
    (hs : ∀ v, genFold iter X.env v = pure v) (I : Inv X pins σ H s) (h : tGx wi g tt te (own.map (·.2)) kb P σ H Q) (hQ : ∀ a s', GxMade X pins σ kb Q a s' → Q' (.ref a) s') :
    wpAny (model X.prog X.w) X.A (eval (.GeneratorExp elt [⟨tg, iter, ifs, 0⟩] scope gpos) X.env) Q' X.xe s := by
  have hfree : ∀ y ∈ scope.names, y.2 = .free → ∃ c, X.env.cells.lookup y.1 = some c := fun y hy e => by
    rcases S.free y hy e with k | k
    · exact I.ok.has _ (.inl k)
    · exact I.ok.has _ (.inr k)
  refine wpAny_GeneratorExp_make S.co (closure_ok hfree) S.nocell S.dot S.kind (by have := hr.dp; omega) ?_ hs
  refine thn (hi.run pins s σ H _ I h) fun xv s1 hx => thn hx fun itv s2 h2 => ?_
  obtain ⟨it, fp, tn, J, H2, rfl, I2, T, st2, f2, hTC, q⟩ := h2
  obtain ⟨ps, hP, ht, hcs⟩ := id hTC
  have hPs : s2.heap.get? P = some { cls := .none, data := .fields ps } := I2.hok P _ hP
  have hPlt : P < s2.heap.objs.size := Heap.lt_size hPs
  have cd : PySem.W.CodeHd s2.heap c P := TB.code.keeps fun b u e => I2.bk b u e
  have cont : ∀ (code : Value) (h3 : Heap) (tk : Nat) (H3 : Hp), Heap.ExtBut P s2.heap h3 → s2.heap.objs.size ≤ h3.objs.size → Inv X pins σ H3 { s2 with heap := h3, toks := tk } → Tabd P H2 H3 → (∀ b ∈ fp, H3 b = none) →
      wpAny (model X.prog X.w) X.A (builtinsFor X.env.globals X.env.builtins) (fun bi s₄ =>
        ∀ h', h'.Ns s₄.heap.objs.size (fun y => if y = (".0" : Str) then some (.ref it) else none) → Heap.SameBut s₄.heap.objs.size (s₄.heap.push { cls := .type "frame", data := .dict #[] }) h' →
          Q' (.ref h'.objs.size) { s₄ with
            gens := s₄.gens.push (.fresh (.compStart (.GeneratorExp elt [⟨tg, iter, ifs, 0⟩] scope gpos) 0 (.ref it) .none (genEnv scope (cloFrom X.env.cells scope.names []) s₄.heap.objs.size code bi X.env))),
            toks := s₄.toks + 1 + 1 + 1,
            heap := h'.push { cls := .type "generator", data := .fields #[.int s₄.gens.size 0, .str "<genexpr>" (s₄.toks + 1), .str (X.env.qual ++ "<genexpr>") (s₄.toks + 1 + 1)] } }) X.xe { s2 with heap := h3, toks := tk } := by
    intro code h3 tk H3 hx hsz J3 tbd hn3
    have keep3 : ∀ b u, b ≠ P → s2.heap.get? b = some u → h3.get? b = some u := fun b u hb e => hx b u hb e
    obtain ⟨W, ⟨m0, w0⟩, turn⟩ := q _ tbd
    obtain ⟨bm, ob, e1, e2, e3, e4, e5, e6, e7, e8⟩ := TB.bm
    refine wpAny_builtinsFor (m := X.mg) (by rw [J3.ok.glob]; exact J3.mod.glob.keeps J3.bk) e1 e2 (J3.bk _ _ e5) e6 e7 e8 ?_
    intro h' hns hsb
    have kp : ∀ b o, h3.get? b = some o → h'.get? b = some o := fun b o e => hsb.extBut b o (Nat.ne_of_lt (Heap.lt_size e)) (Heap.get?_push_of_some _ e)
    have nP : ∀ b ∈ fp, b ≠ P := fun b hb z => by
      have := (f2 b hb).1
      rw [z, hP] at this
      cases this
    have f3 : ∀ b ∈ fp, FpOk X pins H3 b ∧ b < h3.objs.size := fun b hb => by
      obtain ⟨o, e, _⟩ := T.obj _ _ st2 b hb
      refine ⟨⟨?_, (f2 b hb).2⟩, Nat.lt_of_lt_of_le (Heap.lt_size e) hsz⟩
      exact hn3 b hb
    have st3 : tn 0 h3 := T.keep _ _ _ st2 fun b hb o e => keep3 b o (nP b hb) e
    have st4 : tn 0 h' := T.keep _ _ _ st3 fun b _ o e => kp b o e
    have hA : (X.A.in1.in1.deeper (genV X scope h3.objs.size code)).handled = none := hr.hd
    have hfr : (X.A.in1.in1.deeper (genV X scope h3.objs.size code)).frames = some (genV X scope h3.objs.size code :: X.stack) := Around.frames_deeper (A := X.A.in1.in1) J3.ok.frames
    have I4 := gen_start (tk := tk + 1 + 1 + 1) (code := code) J3 S hN f3 hA hfr hns kp (AllBare.push I2.bare (g := .fresh (.compStart (.GeneratorExp elt [⟨tg, iter, ifs, 0⟩] scope gpos) 0 (.ref it) .none (genV X scope h3.objs.size code))) rfl)
    have I5 := I4.kept (t' := tk + 1 + 1 + 1) (h' := h'.push (gxObj X s2.gens.size (tk + 1) (tk + 1 + 1))) fun b u e => Heap.get?_push_of_some _ e
    have hCa : h3.objs.size < h'.objs.size := hns.lt
    have haO : (h'.push (gxObj X s2.gens.size (tk + 1) (tk + 1 + 1))).get? h'.objs.size = some (gxObj X s2.gens.size (tk + 1) (tk + 1 + 1)) := Heap.get?_push_size _ rfl
    have I6 := I5.pins_of (pins' := [(h'.objs.size, gxObj X s2.gens.size (tk + 1) (tk + 1 + 1))]) fun p hp => by
      have hp : p ∈ [(h'.objs.size, gxObj X s2.gens.size (tk + 1) (tk + 1 + 1))] := hp
      rw [List.mem_singleton] at hp
      subst hp
      exact ⟨haO, J3.hok.fresh (Nat.le_of_lt hCa), Nat.ne_of_gt hCa, I4.nofs (Nat.le_refl _), fun v z => by cases z⟩
    have hrg : Room k (X.A.in1.in1.deeper (genV X scope h3.objs.size code)) := (Room.deeper (k := k) (Room.in1 (k := k + 1) (Room.in1 (k := k + 2) hr)) _)
    obtain ⟨pg, pt, pe⟩ := hb X.A.in1.in1 { s2 with heap := h3, toks := tk } H3 h3.objs.size code fp hrg
    refine hQ _ _ ⟨genCx X (X.A.in1.in1.deeper (genV X scope h3.objs.size code)) { s2 with heap := h3, toks := tk } H3 (genV X scope h3.objs.size code) fp, _, s2.gens.size, m0 + 1, _, haO, fun h e => ⟨_, _, _, e, rfl, rfl, rfl⟩, I6.nolimit, Array.getElem?_push_size, ?_, rfl, rfl, fun c σ' H' s' I' qq => ⟨.bl c, H', J3.call' (ch := fp) I'.os I'.base I'.hok I'.bare fun b hb => ⟨(f3 b hb).1.2.2.2.1, (f3 b hb).1.2.1, (f3 b hb).1.2.2.2.2.1, (f3 b hb).1.2.2.2.2.2⟩, rfl, qq⟩⟩
    refine ⟨rfl, ?_⟩
    have I7 := inv_setGen (gn := s2.gens.size) (x := .running) I6 rfl
    have st5 : tn 0 (h'.push (gxObj X s2.gens.size (tk + 1) (tk + 1 + 1))) := T.keep _ _ _ st4 fun b _ o e => Heap.get?_push_of_some _ e
    exact seg_gs (G := genCx X (X.A.in1.in1.deeper (genV X scope h3.objs.size code)) { s2 with heap := h3, toks := tk } H3 (genV X scope h3.objs.size code) fp) T st5 (seg_gl (G := genCx X (X.A.in1.in1.deeper (genV X scope h3.objs.size code)) { s2 with heap := h3, toks := tk } H3 (genV X scope h3.objs.size code) fp) (vs := own.map (·.2)) rfl rfl rfl S.co T pg pt pe (fun b hb => hb) rfl (fun p hp => by
      rw [List.mem_singleton] at hp
      subst hp
      exact fun z => Nat.lt_irrefl _ (Nat.lt_trans hCa (f3 h'.objs.size z).2)) turn m0 (m0 + 1) 0 _ _ _ (Nat.lt_succ_self _) I7 st5 (fun b hb => (f3 b hb).1.1) w0)
  refine ⟨I2.nolimit, ?_⟩
  cases hf : codeAmong gpos ps.toList with
  | none =>
    refine wpAny_genexprCodeX hcode (cd.code hPs ht) (cd.tab hPs) hf fun c' h' tk hx hge hlt hco' hrec htab' _ => ?_
    obtain ⟨c2, oc, vs, t, e2, hoc, hd, hv⟩ := hrec
    cases e2
    have nC : H2 c' = none := I2.hok.fresh hge
    refine cont _ h' tk _ hx (Nat.le_trans hge (Nat.le_of_lt hlt)) (LamX.inv_table (t' := tk) I2 hP (fun b o hb e => hx b o hb e) htab'.2 hge ⟨oc, vs, t, hoc, hd, hv⟩) (tab_new hP ht hcs nC) fun b hb => ?_
    have nb : H2 b = none := (f2 b hb).1
    rw [upd_ne (fun z => ?_), upd_ne (fun z => ?_)]
    · exact nb
    · rw [z, hP] at nb
      cases nb
    · obtain ⟨o, e, _⟩ := T.obj _ _ st2 b hb
      have := Heap.lt_size e
      rw [z] at this
      exact Nat.lt_irrefl _ (Nat.lt_of_lt_of_le this hge)
  | some cv =>
    refine wpAny_genexprCode_hit hcode (cd.code hPs ht) hf ?_
    exact cont cv s2.heap s2.toks H2 (Heap.ExtBut.refl _ _) (Nat.le_refl _) I2 ⟨hTC, fun _ _ _ => rfl⟩ fun b hb => (f2 b hb).1
theorem pe_allG {c P : Addr} {elt tg iter : Expr} {ifs : List Expr} {scope : Scope} {own : List (Str × Nat)} {gpos pos p : Pos} {wi : TI} {g : TG} {tt : TT} {te : TE} {k : Nat}
    (hg : Gl X "all") (hm : X.mg "all" = none) (hr : Room (k + 3) X.A) (TB : GxR.TabB X.base X.mg c P) (hcode : X.env.code = .ref c) (S : GeS X.N X.env.scope scope own) (hN : X.N.Nodup) (hi : PI X tg iter wi)
    (hb : ∀ (A : Around) (s : Shared) (H : Hp) (C : Addr) (code : Value) (fp : List Addr), Room k (A.deeper (genV X scope C code)) → PG (genCx X (A.deeper (genV X scope C code)) s H (genV X scope C code) fp) tg g ∧ PTs (genCx X (A.deeper (genV X scope C code)) s H (genV X scope C code) fp) ifs tt ∧ PE (genCx X (A.deeper (genV X scope C code)) s H (genV X scope C code) fp) elt te)
    (hs : ∀ v, genFold iter X.env v = pure v) (he : starEach [.GeneratorExp elt [⟨tg, iter, ifs, 0⟩] scope gpos] X.env = (false, eval (.GeneratorExp elt [⟨tg, iter, ifs, 0⟩] scope gpos) X.env) :: starEach [] X.env := by rfl) :
    PE X (.Call (.Name "all" p) [.GeneratorExp elt [⟨tg, iter, ifs, 0⟩] scope gpos] [] pos) (tGx wi g tt te (own.map (·.2)) true P) := by
  refine ⟨fun pins s σ H Q I h => ?_⟩
  refine wpAny_Call_Name_kw (ld_blt I hg hm boot_all ?_)
  refine PyProof.Rows.callWith_builtin1 ?_ he (by rfl)
  rw [he]
  show wpAny _ _ (spliced ((false, eval (.GeneratorExp elt [⟨tg, iter, ifs, 0⟩] scope gpos) X.env) :: backTo pos (starEach [] X.env))) _ _ s
  refine Calls.spliced_cons (gx_made hr TB hcode S hN hi hb hs I h fun a s5 hG => ?_)
  obtain ⟨G, ob, gn, n, gs, ha, hig, hl, hgs, hgo, e1, e2, hend⟩ := hG
  refine Calls.spliced_nil ?_
  refine call_function_tree F.kind_all F.plain_all F.entry_all (F.args_all1 _) ?_
  unfold Builtin.«all»
  refine wpAny_bind (m := oneArg "all" _) (wpAny_pure ?_)
  refine wpAny_bind (wpAny_pyIter_gen (hig _ ha) ?_)
  rw [← e1, ← e2] at hgo ⊢
  exact wpAny_pure ⟨plainId_quiet F.plain_all_loop _, all_loopG hr.hd (by have := hr.dp; omega) hig (fun c σ' H' s' I' q => hend c σ' H' s' I' q) n s5 gs ha hl hgs hgo⟩
theorem pe_anyG {c P : Addr} {elt tg iter : Expr} {ifs : List Expr} {scope : Scope} {own : List (Str × Nat)} {gpos pos p : Pos} {wi : TI} {g : TG} {tt : TT} {te : TE} {k : Nat}
    (hg : Gl X "any") (hm : X.mg "any" = none) (hr : Room (k + 3) X.A) (TB : GxR.TabB X.base X.mg c P) (hcode : X.env.code = .ref c) (S : GeS X.N X.env.scope scope own) (hN : X.N.Nodup) (hi : PI X tg iter wi)
    (hb : ∀ (A : Around) (s : Shared) (H : Hp) (C : Addr) (code : Value) (fp : List Addr), Room k (A.deeper (genV X scope C code)) → PG (genCx X (A.deeper (genV X scope C code)) s H (genV X scope C code) fp) tg g ∧ PTs (genCx X (A.deeper (genV X scope C code)) s H (genV X scope C code) fp) ifs tt ∧ PE (genCx X (A.deeper (genV X scope C code)) s H (genV X scope C code) fp) elt te)
    (hs : ∀ v, genFold iter X.env v = pure v) (he : starEach [.GeneratorExp elt [⟨tg, iter, ifs, 0⟩] scope gpos] X.env = (false, eval (.GeneratorExp elt [⟨tg, iter, ifs, 0⟩] scope gpos) X.env) :: starEach [] X.env := by rfl) :
    PE X (.Call (.Name "any" p) [.GeneratorExp elt [⟨tg, iter, ifs, 0⟩] scope gpos] [] pos) (tGx wi g tt te (own.map (·.2)) false P) := by
  refine ⟨fun pins s σ H Q I h => ?_⟩
  refine wpAny_Call_Name_kw (ld_blt I hg hm boot_any ?_)
  refine PyProof.Rows.callWith_builtin1 ?_ he (by rfl)
  rw [he]
  show wpAny _ _ (spliced ((false, eval (.GeneratorExp elt [⟨tg, iter, ifs, 0⟩] scope gpos) X.env) :: backTo pos (starEach [] X.env))) _ _ s
  refine Calls.spliced_cons (gx_made hr TB hcode S hN hi hb hs I h fun a s5 hG => ?_)
  obtain ⟨G, ob, gn, n, gs, ha, hig, hl, hgs, hgo, e1, e2, hend⟩ := hG
  refine Calls.spliced_nil ?_
  refine call_function_tree F.kind_any F.plain_any F.entry_any (F.args_any1 _) ?_
  unfold Builtin.«any»
  refine wpAny_bind (m := oneArg "any" _) (wpAny_pure ?_)
  refine wpAny_bind (wpAny_pyIter_gen (hig _ ha) ?_)
  rw [← e1, ← e2] at hgo ⊢
  exact wpAny_pure ⟨plainId_quiet F.plain_any_loop _, any_loopG hr.hd (by have := hr.dp; omega) hig (fun c σ' H' s' I' q => hend c σ' H' s' I' q) n s5 gs ha hl hgs hgo⟩
end
end DL
namespace DL
open PySem PySem.Spec PyProof.Rows L2
def gxL (k : Bool) (t : TgM) (tt te : AE → Rs Bool) (s : AE) : List PyData → Rs Bool
  | [] => .ok k
  | d :: ds => match t d s with
    | none => .st
    | some s1 => (nox (tt s1)).bind fun b => if b = true then (nox (te s1)).bind fun c => if c = k then gxL k t tt te s ds else .ok c else gxL k t tt te s ds
/-- all (k = true), any (k = false) of te for t in it if tt -/
def eGx (k : Bool) (it : AE → Rs (List PyData)) (vs : List Nat) (t : TgM) (tt te : AE → Rs Bool) : AE → Rs AV := fun s => (it s).bind fun ds => if vs.all (free1 s) = true then (nox (gxL k t tt te (wipeA s vs) ds)).bind fun b => .ok (dv (.bool b)) else .st
section
variable {K : Fr} {W : WX} {it : AE → Rs (List PyData)} {ls vs ts : List Nat} {t : TgM} {tt te : AE → Rs Bool} {k : Bool}
theorem gxL_cons {s : AE} {d : PyData} {ds : List PyData} {r : Bool} (h : gxL k t tt te s (d :: ds) = .ok r) : ∃ s1 b, t d s = some s1 ∧ tt s1 = .ok b ∧ ((b = true ∧ ∃ c, te s1 = .ok c ∧ ((c = k ∧ gxL k t tt te s ds = .ok r) ∨ (c ≠ k ∧ c = r))) ∨ (b = false ∧ gxL k t tt te s ds = .ok r)) := by
  unfold gxL at h
  cases e : t d s with
  | none => rw [e] at h; cases h
  | some s1 =>
    rw [e] at h
    obtain ⟨b, h1, h2⟩ := bind_ok h
    refine ⟨s1, b, rfl, nox_ok h1, ?_⟩
    cases b with
    | true =>
      rw [if_pos rfl] at h2
      obtain ⟨c, h3, h4⟩ := bind_ok h2
      refine .inl ⟨rfl, c, nox_ok h3, ?_⟩
      by_cases hc : c = k
      · rw [if_pos hc] at h4; exact .inl ⟨hc, h4⟩
      · rw [if_neg hc] at h4; cases h4; exact .inr ⟨hc, rfl⟩
    | false => exact .inr ⟨rfl, h2⟩
theorem kp_tabbed {ts : List Addr} {P : Addr} {H H' : Hp} (tg : ∀ t ∈ ts, TabC H t) (hP : TabC H P) (h : Tabd P H H') : Kp ts H H' := by
  obtain ⟨hg, ho⟩ := h
  obtain ⟨ps, hp, _⟩ := hP
  have st : ∀ a u, H a = some u → (∀ ps, u ≠ .tbl ps) → H' a = some u := fun a u e n => by
    rw [ho a (fun z => by rw [z, hp] at e; cases e; exact n _ rfl) (by rw [e]; exact fun z => by cases z)]
    exact e
  refine ⟨⟨fun a xs r => ?_, fun a o e _ n => st a o e n, fun a n => ?_⟩, fun t ht => ?_⟩
  · rcases r with r | ⟨ob, r⟩
    · exact .inl (st a _ r fun ps z => by cases z)
    · exact .inr ⟨ob, st a _ r fun ps z => by cases z⟩
  · by_cases hb : a = P
    · obtain ⟨qs, hq, _⟩ := hg
      rw [hb, hq]; intro z; cases z
    · rw [ho a hb n]; exact n
  · by_cases hb : t = P
    · rw [hb]; exact hg
    · refine (tg t ht).ext fun b u e hu => ?_
      rcases hu with hu | ⟨q, hu⟩
      · rw [ho b (by rw [hu]; exact hb) (by rw [e]; exact fun z => by cases z)]; exact e
      · exact st b u e fun ps z => LamX.codeO_ne ps (hu ▸ z)
theorem t_gx {fe : AE → Rs AV} {P : Addr} (hP : P ∈ TabsOf K) (hok : TgOk t ts) (hs : ∀ i ∈ ts, i ∈ vs) {σ : L2.St} {H : Hp} {Q : VK} (h : tD K W (eGx k it vs t tt (sV fe)) σ H Q) : tGx (tI K W it ls) (gD K t ts) (tTs K W0 tt) (tD K W0 fe) vs k P σ H Q := by
  obtain ⟨c, σa, Z, q⟩ := h
  refine ⟨c, σa, Z, (Go.bind q).mono fun ds q J H1 k1 y => ?_⟩
  have Z1 := Z.kp k1
  have hPt : TabC H1 P := Z1.tab P (by rw [Z.tabE]; exact hP)
  refine ⟨hPt, fun H1' tb => ?_⟩
  have kt : Kp c.tabs H1 H1' := kp_tabbed Z1.tab hPt tb
  have hc : vs.all (free1 σa) = true := by
    by_cases hc : vs.all (free1 σa) = true
    · exact hc
    · rw [if_neg hc] at q; exact q.elim
  rw [if_pos hc] at q
  have hfr : ∀ i ∈ vs, free1 σa i = true := fun i hi => List.all_eq_true.mp hc i hi
  obtain ⟨r, el, q⟩ : ∃ r, gxL k t tt (sV fe) (wipeA σa vs) ds = .ok r ∧ Go K W c σ H (.ok (dv (.bool r)) : Rs AV) fun av => ∀ v H', Kp c.tabs H H' → AvR K c σa σ H H' av v → Q v H' := by
    cases el : gxL k t tt (sV fe) (wipeA σa vs) ds with
    | st => rw [el] at q; exact q.elim
    | ex e => rw [el] at q; exact q.elim
    | ok l => rw [el] at q; exact ⟨l, rfl, q⟩
  have q : ∀ H', Kp c.tabs H H' → Q (.bl r) H' := fun H' kk => q _ H' kk (show Fz _ _ _ _ _ from .bl r)
  refine ⟨fun i m H2 => m = ds.length - i ∧ i ≤ ds.length ∧ Kp c.tabs H1 H2 ∧ gxL k t tt (sV fe) (wipeA σa vs) (ds.drop i) = .ok r, ⟨ds.length, rfl, Nat.zero_le _, kt, by rw [List.drop_zero]; exact el⟩, ?_⟩
  rintro i m H2 ⟨rfl, hi, kk, ec⟩
  obtain ⟨yg, ys⟩ := y i H2 (kk.k.imp fun _ z => z.elim) kk.t
  by_cases hil : i < ds.length
  · right
    have e := List.getElem?_eq_getElem hil
    obtain ⟨go, st⟩ := yg _ e
    rw [List.drop_eq_getElem_cons hil] at ec
    obtain ⟨s1, b, e1, e2, e3⟩ := gxL_cons ec
    refine ⟨go, fun H' => Kp c.tabs H1 H' ∧ gxL k t tt (sV fe) (wipeA σa vs) (ds.drop (i + 1)) = .ok r, fun H' n => ⟨ds.length - (i + 1), by omega, rfl, hil, n.1, n.2⟩, fun x H3 z => ?_⟩
    obtain ⟨k3, f3⟩ := st x H3 z
    have Z3 : Rst K c H3 σa σ := (Z1.kp kk).kp k3
    have Zw := rst_wipe Z3 hfr
    refine ⟨c, wipeA σa vs, _, Zw, f3 _ (fun a z => z.elim (fun z => .inl (.inl ((rt_wipe hfr).mp z))) fun z => .inl (.inr z)), s1, e1, fun σ' Z' sub same => ⟨wipe_same same hs, ?_⟩⟩
    refine ⟨c, s1, Z', ?_⟩
    rw [e2]
    intro H4 k4
    rcases e3 with ⟨rfl, cc, e3, e4⟩ | ⟨rfl, e3⟩
    · rw [if_pos rfl]
      refine ⟨c, s1, Z'.kp k4, ?_⟩
      obtain ⟨av, e5, e6⟩ := bind_ok e3
      rw [e5]
      have eav : av = .d false (.bool cc) := by
        match av, e6 with
        | .d false (.bool b), e6 => cases e6; rfl
      subst eav
      intro yv H5 k5 r5
      have r5 : Fz K (Pr c s1 σ') H5 yv (.bool cc) := r5
      cases r5
      have k15 : Kp c.tabs H1 H5 := ((kk.trans k3).trans k4).trans k5
      refine ⟨cc, rfl, fun hck => ?_, fun hck => ?_⟩
      · rcases e4 with ⟨_, e4⟩ | ⟨n, _⟩
        · exact ⟨k15, e4⟩
        · exact absurd hck n
      · rcases e4 with ⟨n, _⟩ | ⟨_, rfl⟩
        · exact absurd n hck
        · exact q H5 (k1.trans k15)
    · rw [if_neg Bool.false_ne_true]
      exact ⟨(kk.trans k3).trans k4, e3⟩
  · left
    have e : i = ds.length := by omega
    subst e
    rw [List.drop_length] at ec
    cases ec
    exact ⟨ys (Nat.le_refl _), q H2 (k1.trans kk)⟩
end
/-- GeS, told by a Bool -/
def geB (N : List Str) (sc scope : Scope) (own : List (Str × Nat)) : Bool := decide (scope.kind = .function) && !scope.isCoroutine && (scope.names.all fun y => !decide (y.2 = .cell)) && decide (scope.names.lookup (".0" : Str) = some NameKind.local) &&
  (scope.names.all fun y => !decide (y.2 = .free) || decide (sc.names.lookup y.1 = some .cell) || decide (sc.names.lookup y.1 = some .free)) && (own.all fun p => decide (N[p.2]? = some p.1)) && (scope.names.all fun y => !decide (y.2 = .local) || decide (y.1 ∈ own.map (·.1)) || !decide (y.1 ∈ N))
theorem GeS.of {N : List Str} {sc scope : Scope} {own : List (Str × Nat)} (h : geB N sc scope own = true) : GeS N sc scope own := by
  unfold geB at h
  simp only [Bool.and_eq_true, Bool.or_eq_true, Bool.not_eq_true', decide_eq_true_eq, decide_eq_false_iff_not, List.all_eq_true] at h
  obtain ⟨⟨⟨⟨⟨⟨h1, h2⟩, h3⟩, h4⟩, h5⟩, h6⟩, h7⟩ := h
  exact ⟨h1, h2, h3, h4, fun y hy e => by
    rcases h5 y hy with (z | z) | z
    · exact absurd e z
    · exact .inl z
    · exact .inr z, h6, fun y hy e => by
    rcases h7 y hy with (z | z) | z
    · exact absurd e z
    · exact .inl z
    · exact .inr z⟩
section
variable {X : Cx} {W : WX} {c P : Addr} {elt tg iter : Expr} {ifs : List Expr} {scope : Scope} {own : List (Str × Nat)} {gpos pos p : Pos} {it : AE → Rs (List PyData)} {ls ts : List Nat} {t : TgM} {tt : AE → Rs Bool} {fe : AE → Rs AV}
theorem de_allG (k : Nat) (hg : Gl X "all") (hm : X.mg "all" = none) (hr : Room (k + 3) X.A) (TB : GxR.TabB X.base X.mg c P) (hP : P ∈ TabsOf X.K) (hcode : X.env.code = .ref c) (S : geB X.N X.env.scope scope own = true) (hN : X.N.Nodup) (hi : DI X W tg iter it ls)
    (hb : ∀ (A : Around) (s : Shared) (H : Hp) (C : Addr) (code : Value) (fp : List Addr), Room k (A.deeper (genV X scope C code)) → DG (genCx X (A.deeper (genV X scope C code)) s H (genV X scope C code) fp) tg t ts ∧ DTs (genCx X (A.deeper (genV X scope C code)) s H (genV X scope C code) fp) W0 ifs tt ∧ DE (genCx X (A.deeper (genV X scope C code)) s H (genV X scope C code) fp) W0 elt fe)
    (hsub : ∀ i ∈ ts, i ∈ own.map (·.2) := by decide) (hs : ∀ v, genFold iter X.env v = pure v := by intro _; rfl) (he : starEach [.GeneratorExp elt [⟨tg, iter, ifs, 0⟩] scope gpos] X.env = (false, eval (.GeneratorExp elt [⟨tg, iter, ifs, 0⟩] scope gpos) X.env) :: starEach [] X.env := by rfl) :
    DE X W (.Call (.Name "all" p) [.GeneratorExp elt [⟨tg, iter, ifs, 0⟩] scope gpos] [] pos) (eGx true it (own.map (·.2)) t tt (sV fe)) := ⟨fun pins s σ H Q I h =>
  (pe_allG hg hm hr TB hcode (.of S) hN hi (fun A s H C code fp hr => let z := hb A s H C code fp hr; ⟨z.1.pg, z.2.1, z.2.2⟩) hs he).run pins s σ H Q I (t_gx hP (hb X.A.in1.in1 s H 0 .none [] (Room.deeper (k := k) (Room.in1 (k := k + 1) (Room.in1 (k := k + 2) hr)) _)).1.ok hsub h)⟩
theorem de_anyG (k : Nat) (hg : Gl X "any") (hm : X.mg "any" = none) (hr : Room (k + 3) X.A) (TB : GxR.TabB X.base X.mg c P) (hP : P ∈ TabsOf X.K) (hcode : X.env.code = .ref c) (S : geB X.N X.env.scope scope own = true) (hN : X.N.Nodup) (hi : DI X W tg iter it ls)
    (hb : ∀ (A : Around) (s : Shared) (H : Hp) (C : Addr) (code : Value) (fp : List Addr), Room k (A.deeper (genV X scope C code)) → DG (genCx X (A.deeper (genV X scope C code)) s H (genV X scope C code) fp) tg t ts ∧ DTs (genCx X (A.deeper (genV X scope C code)) s H (genV X scope C code) fp) W0 ifs tt ∧ DE (genCx X (A.deeper (genV X scope C code)) s H (genV X scope C code) fp) W0 elt fe)
    (hsub : ∀ i ∈ ts, i ∈ own.map (·.2) := by decide) (hs : ∀ v, genFold iter X.env v = pure v := by intro _; rfl) (he : starEach [.GeneratorExp elt [⟨tg, iter, ifs, 0⟩] scope gpos] X.env = (false, eval (.GeneratorExp elt [⟨tg, iter, ifs, 0⟩] scope gpos) X.env) :: starEach [] X.env := by rfl) :
    DE X W (.Call (.Name "any" p) [.GeneratorExp elt [⟨tg, iter, ifs, 0⟩] scope gpos] [] pos) (eGx false it (own.map (·.2)) t tt (sV fe)) := ⟨fun pins s σ H Q I h =>
  (pe_anyG hg hm hr TB hcode (.of S) hN hi (fun A s H C code fp hr => let z := hb A s H C code fp hr; ⟨z.1.pg, z.2.1, z.2.2⟩) hs he).run pins s σ H Q I (t_gx hP (hb X.A.in1.in1 s H 0 .none [] (Room.deeper (k := k) (Room.in1 (k := k + 1) (Room.in1 (k := k + 2) hr)) _)).1.ok hsub h)⟩
end
end DL
namespace DL
open PySem PySem.Spec PyProof.Rows L2
def zipD (x y : List PyData) : List PyData := List.zipWith (fun a b => .tuple [a, b]) x y
def zip2D : PyData → PyData → Rs (List PyData)
  | .list x, .list y => .ok (zipD x y)
  | .tuple x, .tuple y => .ok (zipD x y)
  | _, _ => .st
def iZp (ls : List Nat) (fa fb : AE → Rs AV) : AE → Rs (List PyData) := fun s => (lsFor fa ls s).bind fun av => (gt s av).bind fun d => (lsFor fb ls s).bind fun bv => (gt s bv).bind fun e => zip2D d e
section
variable {K : Fr} {P inn : Pd} {ts : List Addr} {H1 : Hp}
theorem zip_get {x y : List PyData} {j : Nat} {d : PyData} (h : (zipD x y)[j]? = some d) : ∃ a b, x[j]? = some a ∧ y[j]? = some b ∧ d = .tuple [a, b] := by
  unfold zipD at h
  rw [List.getElem?_zipWith] at h
  cases e1 : x[j]? with
  | none => rw [e1] at h; cases h
  | some a =>
    cases e2 : y[j]? with
    | none => rw [e1, e2] at h; cases h
    | some b => rw [e1, e2] at h; cases h; exact ⟨a, b, rfl, rfl, rfl⟩
/-- what an item of a zip is -/
theorem zip_item {H2 H3 : Hp} {T : Addr} {x y v : V} {dx dy : PyData} {xs ys : List V} {ds es : List PyData} {j : Nat} (f1 : FzA K P H1 xs ds) (f2 : FzA K P H1 ys es) (k : Keep inn H1 H2) (hi : ∀ a, inn a → P a) (t : ∀ t ∈ ts, TabC H2 t)
    (e1 : ds[j]? = some dx) (e2 : es[j]? = some dy) (hx : xs[j]? = some x) (hy : ys[j]? = some y) (ev : v = .ref T) (hT : H2 T = none) (eH : H3 = upd H2 T (.tup [x, y])) :
    Kp ts H2 H3 ∧ ∀ P', (∀ a, P' a → P a ∨ H1 a = none) → Fz K P' H3 v (.tuple [dx, dy]) := by
  subst ev eH
  have kn : Kp ts H2 (upd H2 T (.tup [x, y])) := Kp.new t hT
  refine ⟨kn, fun P' hp => .tup (.inl (.inl upd_same)) ?_⟩
  have a1 := (fz_items (ts := ts) f1 k hi t e1 hx).2 P' hp
  have a2 := (fz_items (ts := ts) f2 k hi t e2 hy).2 P' hp
  exact .cons (a1.keep0 kn.k) (.cons (a2.keep0 kn.k) .nil)
theorem yl_zipL {a b : Addr} {xs ys : List V} {ds es : List PyData} (ea : H1 a = some (.lst xs)) (eb : H1 b = some (.lst ys)) (f1 : FzA K P H1 xs ds) (f2 : FzA K P H1 ys es) (hi : ∀ a, inn a → P a) (na : ¬ inn a) (nb : ¬ inn b) : Yl K P inn ts H1 (Itz K a b) (zipD ds es) := fun j H2 k t => by
  have ea2 : H2 a = some (.lst xs) := k.oth a _ ea na (fun ps z => by cases z)
  have eb2 : H2 b = some (.lst ys) := k.oth b _ eb nb (fun ps z => by cases z)
  refine ⟨fun d hd => ?_, fun hl => ⟨xs, ys, .inl (.inl ea2), .inl (.inl eb2), ?_⟩⟩
  · obtain ⟨dx, dy, e1, e2, rfl⟩ := zip_get hd
    obtain ⟨x, hx, _⟩ := f1.get e1
    obtain ⟨y, hy, _⟩ := f2.get e2
    refine ⟨⟨xs, ys, x, y, .inl (.inl ea2), .inl (.inl eb2), hx, hy⟩, fun v H3 z => ?_⟩
    obtain ⟨T, x', y', ev, hT, eH, z1, z2⟩ := z
    exact zip_item f1 f2 k hi t e1 e2 (z1 xs (.inl (.inl ea2))) (z2 ys (.inl (.inl eb2))) ev hT eH
  · unfold zipD at hl
    rw [List.length_zipWith] at hl
    rw [f1.length, f2.length]
    omega
theorem yl_zipT {a b : Addr} {xs ys : List V} {ds es : List PyData} (sa : SqT K H1 a xs) (sb : SqT K H1 b ys) (f1 : FzA K P H1 xs ds) (f2 : FzA K P H1 ys es) (hi : ∀ a, inn a → P a) : Yl K P inn ts H1 (RZ.ItzT K a b) (zipD ds es) := fun j H2 k t => by
  have sa2 := sqt_keep sa k
  have sb2 := sqt_keep sb k
  refine ⟨fun d hd => ?_, fun hl => ⟨xs, ys, sa2, sb2, ?_⟩⟩
  · obtain ⟨dx, dy, e1, e2, rfl⟩ := zip_get hd
    obtain ⟨x, hx, _⟩ := f1.get e1
    obtain ⟨y, hy, _⟩ := f2.get e2
    refine ⟨⟨xs, ys, x, y, sa2, sb2, hx, hy⟩, fun v H3 z => ?_⟩
    obtain ⟨T, x', y', ev, hT, eH, z1, z2⟩ := z
    exact zip_item f1 f2 k hi t e1 e2 (z1 xs sa2) (z2 ys sb2) ev hT eH
  · unfold zipD at hl
    rw [List.length_zipWith] at hl
    rw [f1.length, f2.length]
    omega
end
section
variable {X : Cx} {W : WX} {e e2 : Expr} {elts : List Expr} {kk : Nat} {tpos pos p : Pos} {fa fb : AE → Rs AV} {ls : List Nat}
theorem di_zip (hg : Gl X "zip") (hm : X.mg "zip" = none) (ha : DE X W e fa) (hb : DE X W e2 fb) (hs : starEach [e, e2] X.env = (false, eval e X.env) :: starEach [e2] X.env := by rfl) (hs2 : starEach [e2] X.env = (false, eval e2 X.env) :: starEach [] X.env := by rfl) (hpl : (backTo pos (starEach [e2] X.env)).any (·.1) = false := by rfl) :
    DI X W (.Tuple elts kk tpos) (.Call (.Name "zip" p) [e, e2] [] pos) (iZp ls fa fb) ls := pi_mono (RZ.pi_zipA hg hm (pa_cons ha (pa_cons hb pa_nil hs2) hs) hs hpl) fun σ H R ⟨c, σa, Z, q⟩ => ⟨c, σa, Z, (go_ls (show Go X.K W c σ H ((lsFor fa ls σa).bind _) _ from q)).mono fun av ⟨hla, q⟩ v H1 k1 r1 => by
  obtain ⟨d, ed, q⟩ := go_gt (Go.bind q)
  refine ⟨c, σa, Z.kp k1, (go_ls (q.later k1)).mono fun bv ⟨hlb, q⟩ w H2 k2 r2 => ?_⟩
  obtain ⟨e, ee, q⟩ := go_gt (Go.bind q)
  have k12 := k1.trans k2
  have r1' := r1.keep0 k2.k
  have r2' := r2.base k1.k
  cases d with
  | list x =>
    cases e with
    | list y =>
      obtain ⟨a, xs, rfl, sa, f1, na⟩ := seq_l Z k12 r1' hla ed
      obtain ⟨b, ys, rfl, sb, f2, nb⟩ := seq_l Z k12 r2' hlb ee
      exact ⟨a, b, xs, ys, rfl, .inl ⟨.inl (.inl sa), .inl (.inl sb), q _ H2 k12 (yl_zipL sa sb f1 f2 lend_rt na nb)⟩⟩
    | _ => exact (show False from q).elim
  | tuple x =>
    cases e with
    | tuple y =>
      obtain ⟨a, xs, rfl, sa, f1⟩ := seq_t Z k12 r1' ed
      obtain ⟨b, ys, rfl, sb, f2⟩ := seq_t Z k12 r2' ee
      exact ⟨a, b, xs, ys, rfl, .inr ⟨sa, sb, q _ H2 k12 (yl_zipT sa sb f1 f2 lend_rt)⟩⟩
    | _ => exact (show False from q).elim
  | _ => cases e <;> exact (show False from q).elim⟩
end
end DL
namespace DL
open PySem PySem.Spec PyProof.Rows L2
section
variable {X : Cx} {W : WX} {x : Str} {pos : Pos}
/-- a module's name that is a whole number -/
theorem de_gint {i : Int} (hg : Gl X x) (hm : ∃ t, X.mg x = some (.int i t)) (hd : (x == ("__debug__" : Str)) = false := by decide) : DE X W (.Name x pos) (eC (.int i)) := by
  obtain ⟨t, hm⟩ := hm
  exact de_c (v := .int i) (pe_glob hg hm ⟨t, rfl⟩ hd) fun _ _ _ => .int i
/-- plain data as the head tells it -/
def dvD : He.Dv → PyData
  | .non => .none
  | .bl b => .bool b
  | .int i => .int i
  | .str z => .str z
  | _ => .none
def dvOk : He.Dv → Bool
  | .non => true
  | .bl _ => true
  | .int _ => true
  | .str z => PyData.canLay0 (.str z) && decide (z.length ≤ 100000)
  | _ => false
theorem dv_fz {K : Fr} {P : Pd} {H : Hp} {d : He.Dv} (h : dvOk d = true) : Fz K P H (d.v K) (dvD d) := by
  cases d with
  | non => exact .non
  | bl b => exact .bl b
  | int i => exact .int i
  | str z =>
    obtain ⟨h1, h2⟩ := Bool.and_eq_true_iff.mp h
    exact .str z h1 (of_decide_eq_true h2)
  | _ => cases h
theorem dvs_fz {K : Fr} {P : Pd} {H : Hp} : ∀ {ds : List He.Dv}, ds.all dvOk = true → FzA K P H (ds.map (He.Dv.v K)) (ds.map dvD)
  | [], _ => .nil
  | d :: ds, h => by
    simp only [List.all_cons, Bool.and_eq_true] at h
    exact .cons (dv_fz h.1) (dvs_fz h.2)
/-- a module's name that is a tuple of such -/
theorem de_gtup {ds : List He.Dv} (hg : Gl X x) (hm : X.mg x = some (.ref (He.ga X.K x))) (ht : He.tupB X.K x ds = true) (ho : ds.all dvOk = true) (hd : (x == ("__debug__" : Str)) = false := by decide) : DE X W (.Name x pos) (eC (.tuple (ds.map dvD))) :=
  pe_mono (pe_glob (v := .ref (He.ga X.K x)) hg hm rfl hd) fun σ H Q ⟨c, σa, Z, q⟩ => q (.ref (He.ga X.K x)) H (Kp.refl Z) (.tup (He.tupB_ok ht H) (dvs_fz ho))
/-- a module's name that is a text -/
theorem de_gstr {z : Str} (hg : Gl X x) (hm : ∃ t, X.mg x = some (.str z t)) (ho : (PyData.canLay0 (.str z) && decide (z.length ≤ 100000)) = true) (hd : (x == ("__debug__" : Str)) = false := by decide) : DE X W (.Name x pos) (eC (.str z)) := by
  obtain ⟨t, hm⟩ := hm
  obtain ⟨h1, h2⟩ := Bool.and_eq_true_iff.mp ho
  exact de_c (v := .str z) (pe_glob hg hm ⟨t, rfl⟩ hd) fun _ _ _ => .str z h1 (of_decide_eq_true h2)
end
theorem str_ok {K : PySem.W.Frag} {h : Heap} {mg : Str → Option Value} (Y : K.In h) (G : h.Ns mainGlobals mg) {x z : Str} (c : (He.Fa.str x z).ok K = true) : ∃ t, mg x = some (.str z t) := by
  have c2 : (match PySem.W.nsIn K mainGlobals x with
    | some (some (.str y _)) => decide (y = z)
    | _ => false) = true := c
  cases e : PySem.W.nsIn K mainGlobals x with
  | none =>
    rw [e] at c2
    cases c2
  | some o =>
    rw [e] at c2
    cases o with
    | none => cases c2
    | some v =>
      cases v with
      | str j t =>
        have ej : j = z := of_decide_eq_true c2
        subst ej
        exact ⟨t, PySem.W.mg_of Y G e⟩
      | _ => cases c2
end DL
namespace DL
open PySem PySem.Spec PyProof.Rows L2
def enumD (n : Nat) : List PyData → List PyData
  | [] => []
  | d :: ds => .tuple [.int n, d] :: enumD (n + 1) ds
theorem enumD_length : ∀ (ds : List PyData) (n : Nat), (enumD n ds).length = ds.length
  | [], _ => rfl
  | d :: ds, n => congrArg (· + 1) (enumD_length ds (n + 1))
theorem enumD_get : ∀ {ds : List PyData} {n j : Nat} {d : PyData}, (enumD n ds)[j]? = some d → ∃ x, ds[j]? = some x ∧ d = .tuple [.int ((n + j : Nat) : Int), x]
  | [], _, _, _, h => by cases h
  | x :: ds, n, 0, d, h => ⟨x, rfl, (Option.some.inj h).symm⟩
  | x :: ds, n, j + 1, d, h => by
    obtain ⟨y, h1, h2⟩ := enumD_get (ds := ds) (n := n + 1) (j := j) h
    refine ⟨y, h1, ?_⟩
    rw [h2, show n + 1 + j = n + (j + 1) by omega]
def enumR : PyData → Rs (List PyData)
  | .list x => .ok (enumD 0 x)
  | _ => .st
def iEn (ls : List Nat) (fa : AE → Rs AV) : AE → Rs (List PyData) := fun s => (lsFor fa ls s).bind fun av => (gt s av).bind enumR
section
variable {K : Fr} {P inn : Pd} {ts : List Addr} {H1 : Hp}
theorem yl_enum {a : Addr} {xs : List V} {ds : List PyData} (ea : H1 a = some (.lst xs)) (f1 : FzA K P H1 xs ds) (hi : ∀ a, inn a → P a) (na : ¬ inn a) : Yl K P inn ts H1 (Ite K a) (enumD 0 ds) := fun j H2 k t => by
  have ea2 : H2 a = some (.lst xs) := k.oth a _ ea na (fun ps z => by cases z)
  refine ⟨fun d hd => ?_, fun hl => ⟨xs, .inl (.inl ea2), ?_⟩⟩
  · obtain ⟨dx, e1, rfl⟩ := enumD_get hd
    obtain ⟨x, hx, _⟩ := f1.get e1
    refine ⟨⟨xs, x, .inl (.inl ea2), hx⟩, fun v H3 z => ?_⟩
    obtain ⟨T, x', ev, hT, eH, z1⟩ := z
    have hx' := z1 xs (.inl (.inl ea2))
    subst ev eH
    have kn : Kp ts H2 (upd H2 T (.tup [.int (j : Nat), x'])) := Kp.new t hT
    refine ⟨kn, fun P' hp => .tup (.inl (.inl upd_same)) ?_⟩
    have a1 := (fz_items (ts := ts) f1 k hi t e1 hx').2 P' hp
    rw [Nat.zero_add]
    exact .cons (.int _) (.cons (a1.keep0 kn.k) .nil)
  · rw [enumD_length] at hl
    rw [f1.length]
    omega
end
section
variable {X : Cx} {W : WX} {e : Expr} {elts : List Expr} {kk : Nat} {tpos pos p : Pos} {fa : AE → Rs AV} {ls : List Nat}
theorem di_enum (hg : Gl X "enumerate") (hm : X.mg "enumerate" = none) (ha : DE X W e fa) (hs : starEach [e] X.env = [(false, eval e X.env)] := by rfl) :
    DI X W (.Tuple elts kk tpos) (.Call (.Name "enumerate" p) [e] [] pos) (iEn ls fa) ls := pi_mono (pi_enum hg hm (pa_cons ha pa_nil hs) hs) fun σ H R ⟨c, σa, Z, q⟩ => ⟨c, σa, Z, (go_ls (show Go X.K W c σ H ((lsFor fa ls σa).bind _) _ from q)).mono fun av ⟨hla, q⟩ v H1 k1 r1 => by
  obtain ⟨d, ed, q⟩ := go_gt (Go.bind q)
  cases d with
  | list x =>
    obtain ⟨a, xs, rfl, sa, f1, na⟩ := seq_l Z k1 r1 hla ed
    exact ⟨a, xs, rfl, .inl (.inl sa), q _ H1 k1 (yl_enum sa f1 lend_rt na)⟩
  | _ => exact (show False from q).elim⟩
end
end DL
namespace DL
open PySem PySem.Spec PyProof.Rows L2
def insI (x : Int) : List Int → List Int
  | [] => [x]
  | y :: l => if x ≤ y then x :: y :: l else y :: insI x l
def sortI : List Int → List Int
  | [] => []
  | x :: l => insI x (sortI l)
theorem insI_perm (x : Int) : ∀ l : List Int, (insI x l).Perm (x :: l)
  | [] => .refl _
  | y :: l => by
    unfold insI
    split
    · exact .refl _
    · exact ((insI_perm x l).cons y).trans (.swap x y l)
theorem sortI_perm : ∀ l : List Int, (sortI l).Perm l
  | [] => .refl _
  | x :: l => (insI_perm x (sortI l)).trans ((sortI_perm l).cons x)
theorem insI_srt (x : Int) : ∀ l : List Int, l.Pairwise (· ≤ ·) → (insI x l).Pairwise (· ≤ ·)
  | [], _ => by simp [insI]
  | y :: l, h => by
    obtain ⟨h1, h2⟩ := List.pairwise_cons.mp h
    unfold insI
    split
    · rename_i hxy
      refine List.pairwise_cons.mpr ⟨fun z hz => ?_, h⟩
      rcases List.mem_cons.mp hz with rfl | hz
      · exact hxy
      · exact Int.le_trans hxy (h1 z hz)
    · rename_i hxy
      refine List.pairwise_cons.mpr ⟨fun z hz => ?_, insI_srt x l h2⟩
      rcases List.mem_cons.mp ((insI_perm x l).mem_iff.mp hz) with rfl | hz
      · omega
      · exact h1 z hz
theorem sortI_srt : ∀ l : List Int, (sortI l).Pairwise (· ≤ ·)
  | [] => .nil
  | x :: l => insI_srt x _ (sortI_srt l)
theorem sortI_uniq {l ns : List Int} (p : l.Perm ns) (s : l.Pairwise (· ≤ ·)) : l = sortI ns := by
  have hp := p.trans (sortI_perm ns).symm
  exact List.Perm.eq_of_pairwise (fun x y _ _ h1 h2 => Int.le_antisymm h1 h2) s (sortI_srt ns) hp
theorem sortI_length (l : List Int) : (sortI l).length = l.length := (sortI_perm l).length_eq
theorem fza_ints {K : Fr} {P : Pd} {H : Hp} : ∀ ns : List Int, FzA K P H (ns.map V.int) (ns.map PyData.int)
  | [] => .nil
  | n :: ns => .cons (.int n) (fza_ints ns)
/-- sorted of whole numbers, fewer than 64 -/
def sortedID : List PyData → Option AV
  | [.list l] => (intsD l).bind fun ns => if ns.length < 64 then some (dn (.list ((sortI ns).map PyData.int))) else none
  | _ => none
section
variable {X : Cx} {W : WX} {e : Expr} {gs : AL} {pos p : Pos}
theorem de_sortedI (hg : Gl X "sorted") (hm : X.mg "sorted" = none) (ha : DAr X W [e] gs) (he : starEach [e] X.env = (false, eval e X.env) :: starEach [] X.env := by rfl) : DE X W (.Call (.Name "sorted" p) [e] [] pos) (eCall sortedID gs) := de_callB cr_sorted (fun c σa σ H vs ds av Q Z h ev q => by
  unfold sortedID at ev
  split at ev
  · rename_i l
    cases en : intsD l with
    | none => rw [en] at ev; cases ev
    | some ns =>
      rw [en] at ev
      by_cases h64 : ns.length < 64
      · rw [show ((some ns).bind fun ns : List Int => if ns.length < 64 then some (dn (.list ((sortI ns).map PyData.int))) else none) = some (dn (.list ((sortI ns).map PyData.int))) from if_pos h64] at ev
        cases ev
        obtain ⟨v, rfl, hb⟩ := brA1 h
        rw [intsD_eq en] at hb
        obtain ⟨a, xs, rfl, r, f⟩ := br_lst hb
        rw [fz_ints f] at r
        refine ⟨_, _, rfl, .inl (.inl r), h64, fun ns' p' h1 h2 h3 => ?_⟩
        rw [sortI_uniq h1 h2]
        exact fin_lst Z q (fza_ints _) p' h3
      · rw [show ((some ns).bind fun ns : List Int => if ns.length < 64 then some (dn (.list ((sortI ns).map PyData.int))) else none) = none from if_neg h64] at ev
        cases ev
  · cases ev) hg hm boot_sorted ha (he := he)
end
end DL
namespace DL
open PySem PySem.Spec PyProof.Rows L2 PySem.W
def notNone : PyData → Bool
  | .none => false
  | _ => true
/-- alike, none of them None, not too deep -/
def al2 (ds : List PyData) : Bool := (ds.all fun x => ds.all fun y => alike x y) && ds.all notNone && decide (PyData.depthAll ds ≤ 60)
theorem al2_ok {ds : List PyData} (h : al2 ds = true) : AlikeAll ds ∧ PyData.depthAll ds ≤ 60 := by
  unfold al2 at h
  simp only [Bool.and_eq_true] at h
  obtain ⟨⟨h1, h2⟩, h3⟩ := h
  refine ⟨⟨fun x hx y hy => List.all_eq_true.mp (List.all_eq_true.mp h1 x hx) y hy, fun x hx e => ?_⟩, of_decide_eq_true h3⟩
  have := List.all_eq_true.mp h2 x hx
  rw [e] at this
  cases this
/-- the pick is one of them -/
theorem fold_mem {f : PyData → PyData → Bool} : ∀ (xs : List PyData) (x : PyData), xs.foldl (fun a y => if f y a then y else a) x ∈ x :: xs
  | [], x => List.mem_cons_self
  | y :: xs, x => by
    rw [List.foldl_cons]
    rcases List.mem_cons.mp (fold_mem (f := f) xs (if f y x then y else x)) with h | h
    · rw [h]; split <;> simp
    · exact List.mem_cons_of_mem _ (List.mem_cons_of_mem _ h)
def rPick (K : Fr) (pick : PyData → List PyData → PyData) : List V → Hp → VK → Prop := fun vs H Q => ∃ (a : Addr) (xs : List V) (x : PyData) (l : List PyData), vs = [V.ref a] ∧ SqL K H a xs ∧ DpAll K H xs (x :: l) ∧ al2 (x :: l) = true ∧
  ∀ (i : Nat) (v : V), xs[i]? = some v → (x :: l)[i]? = some (pick x l) → Q v H
section
variable {X : Cx} {k : Nat}
theorem pick_end {pins : List (Addr × Obj)} {s : Shared} {σ : L2.St} {H : Hp} {Q : VK} {xs : List V} {its : List Value} {ds : List PyData} {p : PyData} {as : List Addr} (I : Inv X pins σ H s) (rv : Vals xs its) (hr : ReadsAll s.heap its ds as) (ha : AlikeAll ds) (hp : p ∈ ds)
    (q : ∀ (i : Nat) (v : V), xs[i]? = some v → ds[i]? = some p → Q v H) {i : Nat} {v : Value} {h' : Heap} {tk : Nat} {bs : List Addr} (hv : its[i]? = some v) (rd : Reads h' v p bs) (kp : ∀ b o, s.heap.get? b = some o → h'.get? b = some o) : EP X pins σ Q v { s with heap := h', toks := tk } := by
  obtain ⟨w, hw, rw'⟩ : ∃ w, xs[i]? = some w ∧ RelV w v := by
    cases e : xs[i]? with
    | none =>
      have z := rv.none_of e
      rw [z] at hv
      cases hv
    | some w =>
      obtain ⟨u, hu, r⟩ := rv.get e
      have e2 : u = v := Option.some.inj (hu.symm.trans hv)
      exact ⟨w, rfl, e2 ▸ r⟩
  obtain ⟨bs', r1, hi, hm, _⟩ := readsAll_at hr i v hv
  have e : ds.getD i .none = p := alike_unique _ _ v _ _ (ha.1 _ hm _ hp) (reads_keeps kp r1) rd
  refine ⟨w, H, I.kept kp, rw', q i w hw ?_⟩
  rw [List.getD_eq_getElem?_getD, List.getElem?_eq_getElem hi] at e
  rw [List.getElem?_eq_getElem hi]
  exact congrArg some e
theorem cr_minD (hc : X.calm = true) (hr : Room k X.A) : CallR X (.builtin "min") (rPick X.K minD) := by
  intro pins s σ H vs us Q I r h
  obtain ⟨a, xs, x, l, rfl, hs, hd, ha, q⟩ := h
  obtain ⟨its, rv, hl, _⟩ := I.list hs
  rw [Vals.ref1 r]
  obtain ⟨h1, h2⟩ := al2_ok ha
  obtain ⟨as, hra⟩ := Dp.readsAll I _ _ _ hd rv
  exact min_list_data (vs := its.toArray) (I.ok.hd hc) hl.isList hra h1 (by have := hr.un; omega) fun i v h' tk bs hv rd kp => pick_end I rv hra h1 (fold_mem (f := dataLt) l x) q (by simpa using hv) rd kp
theorem cr_maxD (hc : X.calm = true) (hr : Room k X.A) : CallR X (.builtin "max") (rPick X.K maxD) := by
  intro pins s σ H vs us Q I r h
  obtain ⟨a, xs, x, l, rfl, hs, hd, ha, q⟩ := h
  obtain ⟨its, rv, hl, _⟩ := I.list hs
  rw [Vals.ref1 r]
  obtain ⟨h1, h2⟩ := al2_ok ha
  obtain ⟨as, hra⟩ := Dp.readsAll I _ _ _ hd rv
  exact max_list_data (vs := its.toArray) (I.ok.hd hc) hl.isList hra h1 (by have := hr.un; omega) fun i v h' tk bs hv rd kp => pick_end I rv hra h1 (fold_mem (f := fun y a => dataLt a y) l x) q (by simpa using hv) rd kp
end
def pickD (pick : PyData → List PyData → PyData) : List PyData → Option AV
  | [.list (x :: l)] => if al2 (x :: l) = true then some (dv (pick x l)) else none
  | _ => none
theorem pick_c1 {K : Fr} {pick : PyData → List PyData → PyData} (hp : ∀ x l, pick x l ∈ x :: l) : C1 K (pickD pick) (rPick K pick) := fun c σa σ H vs ds av Q Z h ev q => by
  unfold pickD at ev
  split at ev
  · rename_i x l
    by_cases ha : al2 (x :: l) = true
    · rw [if_pos ha] at ev
      cases ev
      obtain ⟨v, rfl, hb⟩ := brA1 h
      obtain ⟨a, xs, rfl, r, f⟩ := br_lst hb
      refine ⟨_, xs, x, l, rfl, .inl (.inl r), f.dp, ha, fun i v hv hd => ?_⟩
      obtain ⟨v', hv', fv⟩ := f.get hd
      have e : v' = v := Option.some.inj (hv'.symm.trans hv)
      rw [e] at fv
      exact fin_v Z q fv
    · rw [if_neg ha] at ev
      cases ev
  · cases ev
section
variable {X : Cx} {W : WX} {e : Expr} {gs : AL} {pos p : Pos} {k : Nat}
theorem de_minP (hc : X.calm = true) (hr : Room k X.A) (hg : Gl X "min") (hm : X.mg "min" = none) (ha : DAr X W [e] gs) (he : starEach [e] X.env = (false, eval e X.env) :: starEach [] X.env := by rfl) : DE X W (.Call (.Name "min" p) [e] [] pos) (eCall (pickD minD) gs) := de_callB (cr_minD hc hr) (pick_c1 fun x l => fold_mem (f := dataLt) l x) hg hm boot_min ha (he := he)
theorem de_maxP (hc : X.calm = true) (hr : Room k X.A) (hg : Gl X "max") (hm : X.mg "max" = none) (ha : DAr X W [e] gs) (he : starEach [e] X.env = (false, eval e X.env) :: starEach [] X.env := by rfl) : DE X W (.Call (.Name "max" p) [e] [] pos) (eCall (pickD maxD) gs) := de_callB (cr_maxD hc hr) (pick_c1 fun x l => fold_mem (f := fun y a => dataLt a y) l x) hg hm boot_max ha (he := he)
end
end DL
namespace DL
open PySem PySem.Spec PyProof.Rows L2 PySem.W
/-- Python's order of data, as sortVals has it -/
def ordD (x y : PyData) : Bool := sortLe (listOrd itemOrd) false keyToks x y
def tupNe : PyData → Bool
  | .tuple (_ :: _) => true
  | _ => false
def noTup : PyData → Bool
  | .tuple _ => false
  | .none => false
  | _ => true
def so2 (ds : List PyData) : Bool := (ds.all fun x => ds.all fun y => alike x y) && (ds.all tupNe || ds.all noTup) && ds.all fun d => decide (d.depth ≤ 60)
theorem so2_ok {ds : List PyData} (h : so2 ds = true) : AllAlike ds ∧ Sortable ds ∧ ∀ d ∈ ds, d.depth ≤ 60 := by
  unfold so2 at h
  simp only [Bool.and_eq_true, Bool.or_eq_true] at h
  obtain ⟨⟨h1, h2⟩, h3⟩ := h
  refine ⟨fun x hx y hy => List.all_eq_true.mp (List.all_eq_true.mp h1 x hx) y hy, ?_, fun d hd => of_decide_eq_true (List.all_eq_true.mp h3 d hd)⟩
  rcases h2 with h2 | h2
  · refine .inl fun d hd => ?_
    have z := List.all_eq_true.mp h2 d hd
    unfold tupNe at z
    split at z
    · exact ⟨_, _, rfl⟩
    · cases z
  · refine .inr fun d hd => ?_
    have z := List.all_eq_true.mp h2 d hd
    unfold noTup at z
    split at z
    · cases z
    · cases z
    · rename_i n1 n2
      exact ⟨fun e => n2 e, fun xs e => n1 xs e⟩
theorem reads_each {h : Heap} : ∀ {vs : List Value} {ds : List PyData} {as : List Addr}, ReadsAll h vs ds as → EachIs (fun v d => ∃ as, Reads h v d as) vs ds
  | _, _, _, .nil => .nil
  | _, _, _, .cons r rs => .cons ⟨_, r⟩ (reads_each rs)
theorem each_mono {α β : Type} {R S : α → β → Prop} (f : ∀ a b, R a b → S a b) : ∀ {as : List α} {bs : List β}, EachIs R as bs → EachIs S as bs
  | _, _, .nil => .nil
  | _, _, .cons r t => .cons (f _ _ r) (each_mono f t)
/-- values with their layer forms and data, item by item -/
theorem each_tri {K : Fr} {P : Pd} {H : Hp} : ∀ {xs : List V} {us : List Value} {ds : List PyData}, Vals xs us → FzA K P H xs ds → EachIs (fun u d => ∃ v, RelV v u ∧ Fz K P H v d) us ds
  | _, _, _, .nil, h => by cases h; exact .nil
  | _, _, _, .cons r t, h => by
    cases h with
    | cons a b => exact .cons ⟨_, r, a⟩ (each_tri t b)
theorem each_back {K : Fr} {P : Pd} {H : Hp} : ∀ {us : List Value} {ds : List PyData}, EachIs (fun u d => ∃ v, RelV v u ∧ Fz K P H v d) us ds → ∃ xs, Vals xs us ∧ FzA K P H xs ds
  | _, _, .nil => ⟨[], .nil, .nil⟩
  | _, _, .cons ⟨v, r, a⟩ t => by
    obtain ⟨xs, h1, h2⟩ := each_back t
    exact ⟨v :: xs, .cons r h1, .cons a h2⟩
theorem eachKeys {h : Heap} {ds : List PyData} (hal : AllAlike ds) {vs : List Value} (e : EachIs (fun v d => ∃ as, Reads h v d as) vs ds) : EachIs (fun v d => (dataKind h ds).keyOf v = some (keyToks d)) vs ds :=
  each_mono (fun _ _ ⟨⟨_, r⟩, hd⟩ => dataKind_some hal hd r) (each_mem e)
def rSortedA (K : Fr) : List V → Hp → VK → Prop := fun vs H Q => ∃ (a : Addr) (xs : List V) (ds : List PyData) (P : Pd), vs = [V.ref a] ∧ SqL K H a xs ∧ FzA K P H xs ds ∧ so2 ds = true ∧
  ∀ (ys : List V) (p : Addr), FzA K P H ys (ds.mergeSort ordD) → H p = none → Q (.ref p) (upd H p (.lst ys))
section
variable {X : Cx} {k : Nat}
theorem cr_sortedA (hr : Room k X.A) : CallR X (.builtin "sorted") (rSortedA X.K) := by
  intro pins s σ H vs us Q I r h
  obtain ⟨a, xs, ds, P, rfl, hs, f, ho, q⟩ := h
  obtain ⟨its, rv, hl, hz⟩ := I.list hs
  rw [Vals.ref1 r]
  obtain ⟨h1, h2, h3⟩ := so2_ok ho
  obtain ⟨as, hra⟩ := Dp.readsAll I _ _ _ f.dp rv
  have hlen : its.length ≤ sizeLine := by rw [← rv.length]; exact hz
  have e0 : EachIs (fun v d => ∃ as, Reads (sortingHeap (copyHeap s.heap its) (s.heap.objs.size + 1) its) v d as) its ds := each_mono (fun v d ⟨as, r⟩ => ⟨as, reads_keeps (fun b o e => sorting_copy_old e) r⟩) (reads_each hra)
  refine sorted_vals hl.isList (SortsAt.data e0 h1 h2 fun d hd => ?_) hlen ?_
  · have := hr.un
    have := h3 d hd
    show X.A.units + 1 + 1 + _ < _
    omega
  · obtain ⟨ys, ry, fy⟩ := each_back (sortVals_each (κ := dataKind (sortingHeap (copyHeap s.heap its) (s.heap.objs.size + 1) its) ds) (rev := false) keyToks (each_tri rv f) (each_mono (fun v d h => h) (eachKeys h1 e0)))
    obtain ⟨ep, he'⟩ := PyProof.Rows.sortedAll_at s.heap its (sortVals (dataKind (sortingHeap (copyHeap s.heap its) (s.heap.objs.size + 1) its) ds) false its its).toArray
    have hl2 : ys.length ≤ sizeLine := by rw [ry.length, sortVals_length false rfl]; exact hlen
    exact ⟨.ref _, upd H (s.heap.objs.size + 1) (.lst ys), I.laid (t' := s.toks) (fun _ _ => PyProof.Rows.sortedAll_old) (Nat.le_succ _) ⟨hl2, _, ep, ry, he'⟩, rfl, q ys _ fy (I.hok.fresh (Nat.le_succ _))⟩
end
def sortedAD : List PyData → Option AV
  | [.list l] => if so2 l = true then some (dn (.list (l.mergeSort ordD))) else none
  | _ => none
section
variable {X : Cx} {W : WX} {e : Expr} {gs : AL} {pos p : Pos} {k : Nat}
theorem de_sortedA (hr : Room k X.A) (hg : Gl X "sorted") (hm : X.mg "sorted" = none) (ha : DAr X W [e] gs) (he : starEach [e] X.env = (false, eval e X.env) :: starEach [] X.env := by rfl) : DE X W (.Call (.Name "sorted" p) [e] [] pos) (eCall sortedAD gs) := de_callB (cr_sortedA hr) (fun c σa σ H vs ds av Q Z h ev q => by
  unfold sortedAD at ev
  split at ev
  · rename_i l
    by_cases ho : so2 l = true
    · rw [if_pos ho] at ev
      cases ev
      obtain ⟨v, rfl, hb⟩ := brA1 h
      obtain ⟨a, xs, rfl, r, f⟩ := br_lst hb
      exact ⟨_, xs, l, _, rfl, .inl (.inl r), f, ho, fun ys p' fy hp => fin_lst Z q fy p' hp⟩
    · rw [if_neg ho] at ev
      cases ev
  · cases ev) hg hm boot_sorted ha (he := he)
end
end DL
namespace DL
open PySem PySem.Spec PyProof.Rows L2 PySem.W
def prD (p : Int × Int) : PyData := .tuple [.int p.1, .int p.2]
theorem alike_pr (p q : Int × Int) : alike (prD p) (prD q) = true := by simp [prD, alike, alikeAll]
theorem depth_pr : ∀ l : List (Int × Int), PyData.depthAll (l.map prD) ≤ 60
  | [] => by simp [PyData.depthAll]
  | p :: l => by
    have ih := depth_pr l
    simp only [List.map_cons, PyData.depthAll]
    refine Nat.max_le.mpr ⟨?_, ih⟩
    simp [prD, PyData.depth, PyData.depthAll]
theorem al2_pr (l : List (Int × Int)) : al2 (l.map prD) = true := by
  unfold al2
  simp only [Bool.and_eq_true, List.all_eq_true, List.mem_map, decide_eq_true_eq]
  refine ⟨⟨?_, ?_⟩, depth_pr l⟩
  · rintro _ ⟨p, _, rfl⟩ _ ⟨q, _, rfl⟩
    exact alike_pr p q
  · rintro _ ⟨p, _, rfl⟩
    rfl
theorem eqv_int (i j : Int) : PyData.eqv (.int i) (.int j) = (i == j) := by simp [PyData.eqv]
theorem dataLt_pr (p q : Int × Int) : dataLt (prD p) (prD q) = SrtO.lexB p q := by
  unfold prD SrtO.lexB
  rw [dataLt_tuple]
  have a1 : alike (.int p.1) (.int q.1) = true := by simp [alike]
  have a2 : alike (.int p.2) (.int q.2) = true := by simp [alike]
  by_cases e : p.1 = q.1
  · rw [if_pos e, dataLt_all_yes a1 (by rw [eqv_int]; simpa using e)]
    by_cases e2 : p.2 = q.2
    · rw [dataLt_all_yes a2 (by rw [eqv_int]; simpa using e2), e2]
      have z : decide (q.2 < q.2) = false := by simp
      rw [z]
      rfl
    · rw [dataLt_all_no a2 (by rw [eqv_int]; simpa using e2), dataLt_int]
  · rw [if_neg e, dataLt_all_no a1 (by rw [eqv_int]; simpa using e), dataLt_int]
def minPr (x : Int × Int) (l : List (Int × Int)) : Int × Int := l.foldl (fun a y => if SrtO.lexB y a then y else a) x
theorem minD_pr : ∀ (l : List (Int × Int)) (x : Int × Int), minD (prD x) (l.map prD) = prD (minPr x l)
  | [], _ => rfl
  | y :: l, x => by
    unfold minD minPr
    rw [List.map_cons, List.foldl_cons, List.foldl_cons, dataLt_pr]
    have e : (if SrtO.lexB y x = true then prD y else prD x) = prD (if SrtO.lexB y x = true then y else x) := by split <;> rfl
    rw [e]
    exact minD_pr l _
end DL
namespace DL
open PySem PySem.Spec PyProof.Rows L2 PySem.W
def strI (i : Int) : Str := toString i
def strOkI (i : Int) : Bool := decide (i.natAbs.log2 < 1920) && (PyData.canLay0 (.str (strI i)) && decide ((strI i).length ≤ 100000))
def strD : List PyData → Option AV
  | [.int i] => if strOkI i = true then some (dv (.str (strI i))) else none
  | [.str x] => some (dv (.str x))
  | _ => none
section
variable {X : Cx} {W : WX} {e : Expr} {gs : AL} {pos p : Pos}
theorem call_str_of : CallR X (.type "str") (fun xs H Q => (∃ i, xs = [.int i] ∧ i.natAbs.log2 < 1920 ∧ Q (.str (toString i)) H) ∨ ∃ a, xs = [.str a] ∧ Q (.str a) H) := fun pins s σ H xs us Q I r h => h.elim (call_str_int pins s σ H xs us Q I r) (SkE.call_str_str pins s σ H xs us Q I r)
theorem de_str1 (hg : Gl X "str") (hm : X.mg "str" = none) (ha : DAr X W [e] gs) (he : starEach [e] X.env = (false, eval e X.env) :: starEach [] X.env := by rfl) : DE X W (.Call (.Name "str" p) [e] [] pos) (eCall strD gs) := de_callTy call_str_of (fun c σa σ H vs ds av Q Z h ev q => by
  unfold strD at ev
  split at ev
  · rename_i i
    by_cases ho : strOkI i = true
    · rw [if_pos ho] at ev
      cases ev
      obtain ⟨v, rfl, hb⟩ := brA1 h
      have f := br_fz hb (fun _ z => nomatch z) (fun _ z => nomatch z)
      cases f
      unfold strOkI at ho
      simp only [Bool.and_eq_true, decide_eq_true_eq] at ho
      exact .inl ⟨i, rfl, ho.1, fin_v Z q (.str _ ho.2.1 ho.2.2)⟩
    · rw [if_neg ho] at ev
      cases ev
  · cases ev
    obtain ⟨v, rfl, hb⟩ := brA1 h
    have f := br_fz hb (fun _ z => nomatch z) (fun _ z => nomatch z)
    cases f with
    | str x h1 h2 => exact .inr ⟨_, rfl, fin_v Z q (.str _ h1 h2)⟩
  · cases ev) hg hm PyProof.Rows.boot_str ha (he := he)
end
end DL
namespace DL
open PySem PySem.Spec PyProof.Rows L2 PySem.W
def rSumT (K : Fr) : List V → Hp → VK → Prop := fun vs H Q => ∃ (a : Addr) (ns : List Int), vs = [V.ref a] ∧ SqT K H a (ns.map V.int) ∧ Q (.int ns.sum) H
def rPickT (K : Fr) (pick : PyData → List PyData → PyData) : List V → Hp → VK → Prop := fun vs H Q => ∃ (a : Addr) (xs : List V) (x : PyData) (l : List PyData), vs = [V.ref a] ∧ SqT K H a xs ∧ DpAll K H xs (x :: l) ∧ al2 (x :: l) = true ∧
  ∀ (i : Nat) (v : V), xs[i]? = some v → (x :: l)[i]? = some (pick x l) → Q v H
section
variable {X : Cx} {k : Nat}
theorem cr_sumT (hc : X.calm = true) : CallR X (.builtin "sum") (rSumT X.K) := by
  intro pins s σ H vs us Q I r h
  obtain ⟨a, ns, rfl, hs, q⟩ := h
  obtain ⟨its, rv, hl, _⟩ := I.tuple hs
  rw [Vals.ref1 r]
  obtain ⟨xs, hx⟩ := rv.ints.allInts.items
  have hn : numsOf its.toArray.toList = ns := by rw [show its.toArray.toList = its from rfl, rv.ints.numsOf]
  have hl' : s.heap.IsTuple a its.toArray := let ⟨o, h1, h2, n, h3⟩ := hl; ⟨o, h1, h2, n, h3⟩
  rw [hx] at hl' hn
  rw [nums_intItems] at hn
  refine ktm_sumG (I.ok.hd hc) hl' fun h' tk t' hk => ?_
  rw [preSum_eq, List.take_of_length_le (by simp), hn]
  exact ⟨.int _, H, I.kept hk, ⟨_, rfl⟩, q⟩
theorem cr_minT (hc : X.calm = true) (hr : Room k X.A) : CallR X (.builtin "min") (rPickT X.K minD) := by
  intro pins s σ H vs us Q I r h
  obtain ⟨a, xs, x, l, rfl, hs, hd, ha, q⟩ := h
  obtain ⟨its, rv, hl, _⟩ := I.tuple hs
  rw [Vals.ref1 r]
  obtain ⟨h1, h2⟩ := al2_ok ha
  obtain ⟨as, hra⟩ := Dp.readsAll I _ _ _ hd rv
  exact min_tuple_data (vs := its.toArray) (I.ok.hd hc) (let ⟨o, h1, h2, n, h3⟩ := hl; ⟨o, h1, h2, n, h3⟩ : s.heap.IsTuple a its.toArray) hra h1 (by have := hr.un; omega) fun i v h' tk bs hv rd kp => pick_end I rv hra h1 (fold_mem (f := dataLt) l x) q (by simpa using hv) rd kp
theorem cr_maxT (hc : X.calm = true) (hr : Room k X.A) : CallR X (.builtin "max") (rPickT X.K maxD) := by
  intro pins s σ H vs us Q I r h
  obtain ⟨a, xs, x, l, rfl, hs, hd, ha, q⟩ := h
  obtain ⟨its, rv, hl, _⟩ := I.tuple hs
  rw [Vals.ref1 r]
  obtain ⟨h1, h2⟩ := al2_ok ha
  obtain ⟨as, hra⟩ := Dp.readsAll I _ _ _ hd rv
  exact max_tuple_data (vs := its.toArray) (I.ok.hd hc) (let ⟨o, h1, h2, n, h3⟩ := hl; ⟨o, h1, h2, n, h3⟩ : s.heap.IsTuple a its.toArray) hra h1 (by have := hr.un; omega) fun i v h' tk bs hv rd kp => pick_end I rv hra h1 (fold_mem (f := fun y a => dataLt a y) l x) q (by simpa using hv) rd kp
theorem CallR.or {f : Value} {r r' : List V → Hp → VK → Prop} (h : CallR X f r) (h' : CallR X f r') : CallR X f fun vs H Q => r vs H Q ∨ r' vs H Q := by
  intro pins s σ H vs us Q I rv z
  rcases z with z | z
  · exact h pins s σ H vs us Q I rv z
  · exact h' pins s σ H vs us Q I rv z
end
/-- sum of a list, of a tuple -/
def sumAD : List PyData → Option AV
  | [.list l] => (intsD l).map fun ns => dv (.int ns.sum)
  | [.tuple l] => (intsD l).map fun ns => dv (.int ns.sum)
  | _ => none
def pickAD (pick : PyData → List PyData → PyData) : List PyData → Option AV
  | [.list (x :: l)] => if al2 (x :: l) = true then some (dv (pick x l)) else none
  | [.tuple (x :: l)] => if al2 (x :: l) = true then some (dv (pick x l)) else none
  | _ => none
theorem pick_cA {K : Fr} {pick : PyData → List PyData → PyData} (hp : ∀ x l, pick x l ∈ x :: l) : C1 K (pickAD pick) (fun vs H Q => rPick K pick vs H Q ∨ rPickT K pick vs H Q) := fun c σa σ H vs ds av Q Z h ev q => by
  unfold pickAD at ev
  split at ev
  · rename_i x l
    exact .inl (pick_c1 hp c σa σ H vs _ av Q Z h ev q)
  · rename_i x l
    by_cases ha : al2 (x :: l) = true
    · rw [if_pos ha] at ev
      cases ev
      obtain ⟨v, rfl, hb⟩ := brA1 h
      obtain ⟨a, xs, rfl, r, f⟩ := br_tup hb
      refine .inr ⟨_, xs, x, l, rfl, r, f.dp, ha, fun i v hv hd => ?_⟩
      obtain ⟨v', hv', fv⟩ := f.get hd
      have e : v' = v := Option.some.inj (hv'.symm.trans hv)
      rw [e] at fv
      exact fin_v Z q fv
    · rw [if_neg ha] at ev
      cases ev
  · cases ev
section
variable {X : Cx} {W : WX} {e : Expr} {gs : AL} {pos p : Pos} {k : Nat}
theorem de_sumA (hc : X.calm = true) (hg : Gl X "sum") (hm : X.mg "sum" = none) (ha : DAr X W [e] gs) (he : starEach [e] X.env = (false, eval e X.env) :: starEach [] X.env := by rfl) : DE X W (.Call (.Name "sum" p) [e] [] pos) (eCall sumAD gs) := de_callB ((cr_sum hc).or (cr_sumT hc)) (fun c σa σ H vs ds av Q Z h ev q => by
  unfold sumAD at ev
  split at ev
  · rename_i l
    cases en : intsD l with
    | none => rw [en] at ev; cases ev
    | some ns =>
      rw [en] at ev; cases ev
      obtain ⟨v, rfl, hb⟩ := brA1 h
      rw [intsD_eq en] at hb
      obtain ⟨a, xs, rfl, r, f⟩ := br_lst hb
      rw [fz_ints f] at r
      exact .inl ⟨_, _, rfl, .inl (.inl r), fin_v Z q (.int _)⟩
  · rename_i l
    cases en : intsD l with
    | none => rw [en] at ev; cases ev
    | some ns =>
      rw [en] at ev; cases ev
      obtain ⟨v, rfl, hb⟩ := brA1 h
      rw [intsD_eq en] at hb
      obtain ⟨a, xs, rfl, r, f⟩ := br_tup hb
      rw [fz_ints f] at r
      exact .inr ⟨_, _, rfl, r, fin_v Z q (.int _)⟩
  · cases ev) hg hm boot_sum ha (he := he)
theorem de_minA (hc : X.calm = true) (hr : Room k X.A) (hg : Gl X "min") (hm : X.mg "min" = none) (ha : DAr X W [e] gs) (he : starEach [e] X.env = (false, eval e X.env) :: starEach [] X.env := by rfl) : DE X W (.Call (.Name "min" p) [e] [] pos) (eCall (pickAD minD) gs) := de_callB ((cr_minD hc hr).or (cr_minT hc hr)) (pick_cA fun x l => fold_mem (f := dataLt) l x) hg hm boot_min ha (he := he)
theorem de_maxA (hc : X.calm = true) (hr : Room k X.A) (hg : Gl X "max") (hm : X.mg "max" = none) (ha : DAr X W [e] gs) (he : starEach [e] X.env = (false, eval e X.env) :: starEach [] X.env := by rfl) : DE X W (.Call (.Name "max" p) [e] [] pos) (eCall (pickAD maxD) gs) := de_callB ((cr_maxD hc hr).or (cr_maxT hc hr)) (pick_cA fun x l => fold_mem (f := fun y a => dataLt a y) l x) hg hm boot_max ha (he := he)
end
end DL
namespace DL
open PySem PySem.Spec PyProof.Rows L2
section
variable {α β : Type} {t : TgM} {tt te : AE → Rs Bool} {tv : AE → Rs PyData} {s : AE} {emb : α → PyData} {p : α → Bool} {f : α → PyData} {it : AE → Rs (List PyData)} {vs : List Nat} {i : Nat}
theorem compL_map : ∀ l : List α, (∀ a ∈ l, ∃ s1, t (emb a) s = some s1 ∧ tt s1 = .ok (p a) ∧ (p a = true → tv s1 = .ok (f a))) → compL t tt tv s (l.map emb) = .ok ((l.filter p).map f)
  | [], _ => rfl
  | a :: l, h => by
    obtain ⟨s1, h1, h2, h3⟩ := h a List.mem_cons_self
    have ih := compL_map l fun b hb => h b (List.mem_cons_of_mem _ hb)
    rw [List.map_cons, compL, h1]
    show (nox (tt s1)).bind _ = _
    rw [h2]
    show (if p a = true then _ else _) = _
    by_cases hp : p a = true
    · rw [if_pos hp, h3 hp, List.filter_cons_of_pos hp, List.map_cons]
      show (compL t tt tv s (l.map emb)).bind _ = _
      rw [ih]
      rfl
    · rw [if_neg hp, List.filter_cons_of_neg hp]
      exact ih
/-- [f a for a in l if p a] -/
theorem eLc_ok (l : List α) (hit : it s = .ok (l.map emb)) (hf : vs.all (free1 s) = true) (hl : lenOk l.length) (h : ∀ a ∈ l, ∃ s1, t (emb a) (wipeA s vs) = some s1 ∧ tt s1 = .ok (p a) ∧ (p a = true → tv s1 = .ok (f a))) :
    eLc it vs t tt tv s = .ok (dn (.list ((l.filter p).map f))) := by
  unfold eLc
  rw [hit]
  show (if _ then _ else _) = _
  rw [if_pos ⟨hf, by rw [List.length_map]; exact hl⟩, compL_map l h]
  rfl
/-- [f a for a in l] -/
theorem eLc_map (l : List α) (hit : it s = .ok (l.map emb)) (hf : vs.all (free1 s) = true) (hl : lenOk l.length) (h : ∀ a ∈ l, ∃ s1, t (emb a) (wipeA s vs) = some s1 ∧ tv s1 = .ok (f a)) :
    eLc it vs t sYes tv s = .ok (dn (.list (l.map f))) := by
  rw [eLc_ok (tt := sYes) (p := fun _ => true) (f := f) l hit hf hl fun a ha => let ⟨s1, h1, h2⟩ := h a ha; ⟨s1, h1, rfl, fun _ => h2⟩, List.filter_eq_self.mpr fun _ _ => rfl]
theorem free_asg (hf : free1 s i = true) : asg (s.set i .un) i = true := by
  have hi : i < s.length := by
    unfold free1 at hf
    cases e : s[i]? with
    | none => rw [e] at hf; cases hf
    | some x => exact (List.getElem?_eq_some_iff.mp e).1
  unfold asg
  rw [List.getElem?_set_self hi]
theorem tN_wipe (hf : free1 s i = true) (d : PyData) : tN i d (wipeA s [i]) = some (s.set i (.v d)) := by
  show (if asg (s.set i .un) i = true then some ((s.set i .un).set i (.v d)) else none) = _
  rw [if_pos (free_asg hf), List.set_set]
theorem all1 (hf : free1 s i = true) : [i].all (free1 s) = true := by simp [hf]
theorem eLc_N (l : List α) (hit : it s = .ok (l.map emb)) (hf : free1 s i = true) (hl : lenOk l.length) (h : ∀ a ∈ l, tt (s.set i (.v (emb a))) = .ok (p a) ∧ (p a = true → tv (s.set i (.v (emb a))) = .ok (f a))) :
    eLc it [i] (tN i) tt tv s = .ok (dn (.list ((l.filter p).map f))) :=
  eLc_ok l hit (all1 hf) hl fun a ha => ⟨_, tN_wipe hf _, h a ha⟩
theorem eLc_Nm (l : List α) (hit : it s = .ok (l.map emb)) (hf : free1 s i = true) (hl : lenOk l.length) (h : ∀ a ∈ l, tv (s.set i (.v (emb a))) = .ok (f a)) :
    eLc it [i] (tN i) sYes tv s = .ok (dn (.list (l.map f))) :=
  eLc_map l hit (all1 hf) hl fun a ha => ⟨_, tN_wipe hf _, h a ha⟩
/-- all, any -/
theorem gxL_all {q : α → Bool} : ∀ l : List α, (∀ a ∈ l, ∃ s1, t (emb a) s = some s1 ∧ tt s1 = .ok (p a) ∧ (p a = true → te s1 = .ok (q a))) → gxL true t tt te s (l.map emb) = .ok ((l.filter p).all q)
  | [], _ => rfl
  | a :: l, h => by
    obtain ⟨s1, h1, h2, h3⟩ := h a List.mem_cons_self
    have ih := gxL_all l fun b hb => h b (List.mem_cons_of_mem _ hb)
    rw [List.map_cons, gxL, h1]
    show (nox (tt s1)).bind _ = _
    rw [h2]
    show (if p a = true then _ else _) = _
    by_cases hp : p a = true
    · rw [if_pos hp, h3 hp, List.filter_cons_of_pos hp, List.all_cons]
      show (if q a = true then _ else _) = _
      by_cases hq : q a = true
      · rw [if_pos hq, ih, hq, Bool.true_and]
      · rw [if_neg hq]
        rw [Bool.not_eq_true] at hq
        rw [hq, Bool.false_and]
    · rw [if_neg hp, List.filter_cons_of_neg hp]
      exact ih
theorem gxL_any {q : α → Bool} : ∀ l : List α, (∀ a ∈ l, ∃ s1, t (emb a) s = some s1 ∧ tt s1 = .ok (p a) ∧ (p a = true → te s1 = .ok (q a))) → gxL false t tt te s (l.map emb) = .ok ((l.filter p).any q)
  | [], _ => rfl
  | a :: l, h => by
    obtain ⟨s1, h1, h2, h3⟩ := h a List.mem_cons_self
    have ih := gxL_any l fun b hb => h b (List.mem_cons_of_mem _ hb)
    rw [List.map_cons, gxL, h1]
    show (nox (tt s1)).bind _ = _
    rw [h2]
    show (if p a = true then _ else _) = _
    by_cases hp : p a = true
    · rw [if_pos hp, h3 hp, List.filter_cons_of_pos hp, List.any_cons]
      show (if q a = false then _ else _) = _
      by_cases hq : q a = false
      · rw [if_pos hq, ih, hq, Bool.false_or]
      · rw [if_neg hq]
        rw [Bool.not_eq_false] at hq
        rw [hq, Bool.true_or]
    · rw [if_neg hp, List.filter_cons_of_neg hp]
      exact ih
theorem eGx_all {q : α → Bool} (l : List α) (hit : it s = .ok (l.map emb)) (hf : vs.all (free1 s) = true) (h : ∀ a ∈ l, ∃ s1, t (emb a) (wipeA s vs) = some s1 ∧ te s1 = .ok (q a)) :
    eGx true it vs t sYes te s = .ok (dv (.bool (l.all q))) := by
  unfold eGx
  rw [hit]
  show (if _ then _ else _) = _
  rw [if_pos hf, gxL_all (tt := sYes) (p := fun _ => true) (q := q) l fun a ha => let ⟨s1, h1, h2⟩ := h a ha; ⟨s1, h1, rfl, fun _ => h2⟩, List.filter_eq_self.mpr fun _ _ => rfl]
  rfl
theorem eGx_any {q : α → Bool} (l : List α) (hit : it s = .ok (l.map emb)) (hf : vs.all (free1 s) = true) (h : ∀ a ∈ l, ∃ s1, t (emb a) (wipeA s vs) = some s1 ∧ te s1 = .ok (q a)) :
    eGx false it vs t sYes te s = .ok (dv (.bool (l.any q))) := by
  unfold eGx
  rw [hit]
  show (if _ then _ else _) = _
  rw [if_pos hf, gxL_any (tt := sYes) (p := fun _ => true) (q := q) l fun a ha => let ⟨s1, h1, h2⟩ := h a ha; ⟨s1, h1, rfl, fun _ => h2⟩, List.filter_eq_self.mpr fun _ _ => rfl]
  rfl
theorem eGx_allN {q : α → Bool} (l : List α) (hit : it s = .ok (l.map emb)) (hf : free1 s i = true) (h : ∀ a ∈ l, te (s.set i (.v (emb a))) = .ok (q a)) :
    eGx true it [i] (tN i) sYes te s = .ok (dv (.bool (l.all q))) := eGx_all l hit (all1 hf) fun a ha => ⟨_, tN_wipe hf _, h a ha⟩
theorem eGx_anyN {q : α → Bool} (l : List α) (hit : it s = .ok (l.map emb)) (hf : free1 s i = true) (h : ∀ a ∈ l, te (s.set i (.v (emb a))) = .ok (q a)) :
    eGx false it [i] (tN i) sYes te s = .ok (dv (.bool (l.any q))) := eGx_any l hit (all1 hf) fun a ha => ⟨_, tN_wipe hf _, h a ha⟩
end
section
variable {α β : Type} {t : TgM} {body : SM} {fg : List Nat} {emb : α → PyData}
/-- the state by what was walked -/
theorem forL_from {S : List α → AE} : ∀ (l pre0 : List α), (∀ pre a post, pre0 ++ l = pre ++ a :: post → pre0.length ≤ pre.length → ∃ s1 s2, t (emb a) (S pre) = some s1 ∧ (body s1 = .nx s2 ∨ body s1 = .ct s2) ∧ fgt fg s2 = S (pre ++ [a])) →
    forL t body fg (l.map emb) (S pre0) = .nx (S (pre0 ++ l))
  | [], pre0, _ => by rw [List.append_nil]; rfl
  | a :: l, pre0, h => by
    obtain ⟨s1, s2, e1, e2, e3⟩ := h pre0 a l rfl (Nat.le_refl _)
    have e : pre0 ++ a :: l = (pre0 ++ [a]) ++ l := by simp
    rw [List.map_cons, forL_cons e1, e]
    have ih := forL_from (S := S) l (pre0 ++ [a]) fun pre b post q hl => h pre b post (by rw [e]; exact q) (by simp at hl; omega)
    rcases e2 with e2 | e2 <;> rw [e2] <;> simp only [turn_nx, turn_ct] <;> rw [e3] <;> exact ih
theorem forL_pre {S : List α → AE} (l : List α) (h : ∀ pre a post, l = pre ++ a :: post → ∃ s1 s2, t (emb a) (S pre) = some s1 ∧ (body s1 = .nx s2 ∨ body s1 = .ct s2) ∧ fgt fg s2 = S (pre ++ [a])) :
    forL t body fg (l.map emb) (S []) = .nx (S l) := forL_from l [] fun pre a post e _ => h pre a post e
/-- a fold that may end with a value -/
def foldS (step : β → α → β ⊕ PyData) : β → List α → β ⊕ PyData
  | b, [] => .inl b
  | b, a :: l => match step b a with
    | .inl b' => foldS step b' l
    | .inr d => .inr d
def forR (S : β → AE) (I : β → Prop) (r : SR) : β ⊕ PyData → Prop
  | .inl b => I b ∧ r = .nx (S b)
  | .inr d => ∃ s', r = .rt false d s'
theorem forL_sum {S : β → AE} {I : β → Prop} {step : β → α → β ⊕ PyData} : ∀ (l : List α) (b : β), (∀ b a, a ∈ l → I b → ∃ s1, t (emb a) (S b) = some s1 ∧ match step b a with
      | .inl b' => I b' ∧ ∃ s2, (body s1 = .nx s2 ∨ body s1 = .ct s2) ∧ fgt fg s2 = S b'
      | .inr d => ∃ s2, body s1 = .rt false d s2) → I b → forR S I (forL t body fg (l.map emb) (S b)) (foldS step b l)
  | [], b, _, i => ⟨i, rfl⟩
  | a :: l, b, h, i => by
    obtain ⟨s1, e1, e2⟩ := h b a List.mem_cons_self i
    rw [List.map_cons, forL_cons e1]
    unfold foldS
    cases e : step b a with
    | inl b' =>
      rw [e] at e2
      obtain ⟨i', s2, e2, e3⟩ := e2
      have ih := forL_sum (S := S) (I := I) (step := step) l b' (fun b a ha i => h b a (List.mem_cons_of_mem _ ha) i) i'
      rcases e2 with e2 | e2 <;> rw [e2] <;> simp only [turn_nx, turn_ct] <;> rw [e3] <;> exact ih
    | inr d =>
      rw [e] at e2
      obtain ⟨s2, e2⟩ := e2
      rw [e2]
      exact ⟨s2, rfl⟩
end
theorem ixN_nat {n k : Nat} (h : k < n) : ixN n (k : Int) = some k := by
  unfold ixN
  rw [if_pos (by omega), if_pos (by omega)]
  rfl
theorem atI_nat {l : List PyData} {k : Nat} {d : PyData} (h : l[k]? = some d) : atI l (k : Int) = some d := by
  have hk := (List.getElem?_eq_some_iff.mp h).1
  unfold atI
  rw [ixN_nat hk]
  exact h
theorem ix_tup {l : List PyData} {k : Nat} {d : PyData} (h : l[k]? = some d) : ixD (.tuple l) (.int (k : Int)) = some (dv d) := by
  show (atI l (k : Int)).map dv = _
  rw [atI_nat h]; rfl
theorem ix_lst {l : List PyData} {k : Nat} {d : PyData} (h : l[k]? = some d) : ixD (.list l) (.int (k : Int)) = some (dv d) := by
  show (atI l (k : Int)).map dv = _
  rw [atI_nat h]; rfl
theorem atI_last {l : List PyData} {d : PyData} : atI (l ++ [d]) (-1) = some d := by
  unfold atI ixN
  have e : (l ++ [d]).length = l.length + 1 := by simp
  rw [e]
  rw [if_neg (by omega), if_pos (by omega), show (-1 + ((l.length + 1 : Nat) : Int)).toNat = l.length by omega]
  show (l ++ [d])[l.length]? = _
  simp
theorem rg_map (n : Nat) : rgD 0 (n : Int) = (List.range n).map fun k => PyData.int ((k : Nat) : Int) := rgD_0 n
theorem rg2_map (a b : Nat) : rgD (a : Int) (b : Int) = (List.range' a (b - a)).map fun k => PyData.int ((k : Nat) : Int) := by
  unfold rgD
  rw [show ((b : Int) - a).toNat = b - a by omega, List.range'_eq_map_range, List.map_map]
  apply List.map_congr_left
  intro k _
  simp
theorem sumL (ns : List Int) : sumAD [.list (ns.map .int)] = some (dv (.int ns.sum)) := by
  show (intsD _).map _ = _
  rw [intsD_map]; rfl
theorem sumT (ns : List Int) : sumAD [.tuple (ns.map .int)] = some (dv (.int ns.sum)) := by
  show (intsD _).map _ = _
  rw [intsD_map]; rfl
theorem cut_nat {l : List PyData} {a b : Nat} (h1 : a ≤ l.length) (h2 : b ≤ l.length) : cutL l (some (a : Int)) (some (b : Int)) = (l.drop a).take (b - a) := by
  unfold cutL
  have e1 : HT.sIx l.length 0 (some (a : Int)) = a := by
    unfold HT.sIx; simp; rw [if_neg (by omega)]; omega
  have e2 : HT.sIx l.length l.length (some (b : Int)) = b := by
    unfold HT.sIx; simp; rw [if_neg (by omega)]; omega
  rw [e1, e2]
theorem alike_int (i j : Int) : PySem.W.alike (.int i) (.int j) = true := by simp [PySem.W.alike]
theorem depth_ints : ∀ l : List Int, PyData.depthAll (l.map .int) ≤ 60
  | [] => by simp [PyData.depthAll]
  | p :: l => by
    have ih := depth_ints l
    simp only [List.map_cons, PyData.depthAll]
    exact Nat.max_le.mpr ⟨by simp [PyData.depth], ih⟩
theorem al2_ints (l : List Int) : al2 (l.map .int) = true := by
  unfold al2
  simp only [Bool.and_eq_true, List.all_eq_true, List.mem_map, decide_eq_true_eq]
  refine ⟨⟨?_, ?_⟩, depth_ints l⟩
  · rintro _ ⟨p, _, rfl⟩ _ ⟨q, _, rfl⟩
    exact alike_int p q
  · rintro _ ⟨p, _, rfl⟩
    rfl
theorem dataLt_i (i j : Int) : PySem.W.dataLt (.int i) (.int j) = decide (i < j) := PySem.W.dataLt_int ..
theorem minD_ints : ∀ (l : List Int) (x : Int), PySem.W.minD (.int x) (l.map .int) = .int (l.foldl (fun m y => if y < m then y else m) x)
  | [], _ => rfl
  | y :: l, x => by
    show PySem.W.minD (if PySem.W.dataLt (.int y) (.int x) = true then .int y else .int x) (l.map .int) = _
    rw [dataLt_i, List.foldl_cons]
    have e : (if decide (y < x) = true then PyData.int y else PyData.int x) = .int (if y < x then y else x) := by
      by_cases h : y < x <;> simp [h]
    rw [e]
    exact minD_ints l _
theorem maxD_ints : ∀ (l : List Int) (x : Int), PySem.W.maxD (.int x) (l.map .int) = .int (l.foldl (fun m y => if y > m then y else m) x)
  | [], _ => rfl
  | y :: l, x => by
    show PySem.W.maxD (if PySem.W.dataLt (.int x) (.int y) = true then .int y else .int x) (l.map .int) = _
    rw [dataLt_i, List.foldl_cons]
    have e : (if decide (x < y) = true then PyData.int y else PyData.int x) = .int (if y > x then y else x) := by
      by_cases h : x < y <;> simp [h]
    rw [e]
    exact maxD_ints l _
/-- min of whole numbers, told by what it is -/
theorem min_ints {l : List Int} {m : Int} (h1 : m ∈ l) (h2 : ∀ x ∈ l, m ≤ x) : pickAD PySem.W.minD [.list (l.map .int)] = some (dv (.int m)) := by
  cases l with
  | nil => cases h1
  | cons x l =>
    show (if al2 ((x :: l).map .int) = true then _ else _) = _
    rw [if_pos (al2_ints _), minD_ints]
    obtain ⟨q1, q2⟩ := minI_spec l x
    have := Int.le_antisymm (q2 m h1) (h2 _ q1)
    rw [this]
theorem max_ints {l : List Int} {m : Int} (h1 : m ∈ l) (h2 : ∀ x ∈ l, x ≤ m) : pickAD PySem.W.maxD [.list (l.map .int)] = some (dv (.int m)) := by
  cases l with
  | nil => cases h1
  | cons x l =>
    show (if al2 ((x :: l).map .int) = true then _ else _) = _
    rw [if_pos (al2_ints _), maxD_ints]
    obtain ⟨q1, q2⟩ := maxI_spec l x
    have := Int.le_antisymm (h2 _ q1) (q2 m h1)
    rw [this]
mutual
theorem eqv_self : ∀ {n : Nat} {d : PyData}, fit n d = true → PyData.eqv d d = true
  | _, .none, _ => by simp [PyData.eqv]
  | _, .bool b, _ => by simp [PyData.eqv]
  | _, .int i, _ => by simp [PyData.eqv]
  | _, .str x, _ => by simp [PyData.eqv]
  | n + 1, .list l, h => by simp only [PyData.eqv]; exact eqvAll_self (n := n) (List.all_eq_true.mp h)
  | n + 1, .tuple l, h => by simp only [PyData.eqv]; exact eqvAll_self (n := n) (List.all_eq_true.mp h)
  | 0, .list _, h => by cases h
  | 0, .tuple _, h => by cases h
  | 0, .dict l, h => by cases h
  | _ + 1, .dict l, h => by cases h
theorem eqvAll_self : ∀ {n : Nat} {l : List PyData}, (∀ x ∈ l, fit n x = true) → PyData.eqvAll l l = true
  | _, [], _ => by simp [PyData.eqvAll]
  | n, d :: l, h => by
    simp only [PyData.eqvAll, Bool.and_eq_true]
    exact ⟨eqv_self (n := n) (h d List.mem_cons_self), eqvAll_self (n := n) fun x hx => h x (List.mem_cons_of_mem _ hx)⟩
end
theorem eqD_self {d : PyData} (h : fit 60 d = true) : eqD d d = some (dv (.bool true)) := by
  unfold eqD
  rw [if_pos ⟨h, h⟩, eqv_self h]
theorem neD_self {d : PyData} (h : fit 60 d = true) : neD d d = some (dv (.bool false)) := by
  unfold neD
  rw [if_pos ⟨h, h⟩, eqv_self h]; rfl
theorem fit_ints (n : Nat) (l : List Int) : (l.map PyData.int).all (fit n) = true := by
  rw [List.all_eq_true]
  rintro _ h
  obtain ⟨i, _, rfl⟩ := List.mem_map.mp h
  cases n <;> rfl
section
variable {t : TgM} {body : SM} {fg : List Nat} {emb : Nat → PyData} {m : Nat}
theorem forL_rg0 {I : Nat → AE → Prop} : ∀ (n k : Nat) (s : AE), k + n = m → (∀ k s, k < m → I k s → ∃ s1 s2, t (emb k) s = some s1 ∧ (body s1 = .nx s2 ∨ body s1 = .ct s2) ∧ I (k + 1) (fgt fg s2)) → I k s →
    ∃ s', forL t body fg ((List.range' k n).map emb) s = .nx s' ∧ I m s'
  | 0, k, s, e, _, i => by rw [Nat.add_zero] at e; subst e; exact ⟨s, rfl, i⟩
  | n + 1, k, s, e, h, i => by
    obtain ⟨s1, s2, e1, e2, i2⟩ := h k s (by omega) i
    rw [List.range'_succ, List.map_cons, forL_cons e1]
    have ih := forL_rg0 n (k + 1) (fgt fg s2) (by omega) h i2
    rcases e2 with e2 | e2 <;> rw [e2] <;> exact ih
/-- a loop over 0 .. m - 1, with an invariant -/
theorem forL_rgI {I : Nat → AE → Prop} {s : AE} (i : I 0 s) (h : ∀ k s, k < m → I k s → ∃ s1 s2, t (emb k) s = some s1 ∧ (body s1 = .nx s2 ∨ body s1 = .ct s2) ∧ I (k + 1) (fgt fg s2)) :
    ∃ s', forL t body fg ((List.range m).map emb) s = .nx s' ∧ I m s' := by
  rw [List.range_eq_range']
  exact forL_rg0 m 0 s (by omega) h i
/-- .. with the states told -/
theorem forL_rgS {S : Nat → AE} (h : ∀ k, k < m → ∃ s1 s2, t (emb k) (S k) = some s1 ∧ (body s1 = .nx s2 ∨ body s1 = .ct s2) ∧ fgt fg s2 = S (k + 1)) :
    forL t body fg ((List.range m).map emb) (S 0) = .nx (S m) := by
  obtain ⟨s', e, i⟩ := forL_rgI (t := t) (body := body) (fg := fg) (emb := emb) (m := m) (I := fun k s => s = S k) rfl fun k s hk i => by
    subst i
    obtain ⟨s1, s2, a, b, c⟩ := h k hk
    exact ⟨s1, s2, a, b, c⟩
  rw [e, i]
/-- .. that ends at the first k of another kind -/
theorem forL_rgR0 {S : Nat → AE} {G : Nat → Prop} {d : PyData} : ∀ (n k : Nat), k + n = m → (∀ k, k < m → (G k ∧ ∃ s1 s2, t (emb k) (S k) = some s1 ∧ (body s1 = .nx s2 ∨ body s1 = .ct s2) ∧ fgt fg s2 = S (k + 1)) ∨ (¬ G k ∧ ∃ s1 s2, t (emb k) (S k) = some s1 ∧ body s1 = .rt false d s2)) →
    ((∀ j, k ≤ j → j < m → G j) ∧ forL t body fg ((List.range' k n).map emb) (S k) = .nx (S m)) ∨ ((∃ j, k ≤ j ∧ j < m ∧ ¬ G j) ∧ ∃ s', forL t body fg ((List.range' k n).map emb) (S k) = .rt false d s')
  | 0, k, e, _ => by rw [Nat.add_zero] at e; subst e; exact .inl ⟨fun j h1 h2 => by omega, rfl⟩
  | n + 1, k, e, h => by
    rw [List.range'_succ, List.map_cons]
    rcases h k (by omega) with ⟨g, s1, s2, e1, e2, e3⟩ | ⟨g, s1, s2, e1, e2⟩
    · rw [forL_cons e1]
      have e4 : (body s1).turn fg (forL t body fg ((List.range' (k + 1) n).map emb)) = forL t body fg ((List.range' (k + 1) n).map emb) (S (k + 1)) := by
        rcases e2 with e2 | e2 <;> rw [e2] <;> simp only [turn_nx, turn_ct] <;> rw [e3]
      rw [e4]
      rcases forL_rgR0 n (k + 1) (by omega) h with ⟨a, b⟩ | ⟨⟨j, j1, j2, j3⟩, b⟩
      · refine .inl ⟨fun j h1 h2 => ?_, b⟩
        by_cases hj : j = k
        · rw [hj]; exact g
        · exact a j (by omega) h2
      · exact .inr ⟨⟨j, by omega, j2, j3⟩, b⟩
    · rw [forL_cons e1, e2]
      exact .inr ⟨⟨k, Nat.le_refl _, by omega, g⟩, s2, rfl⟩
theorem forL_rgR {S : Nat → AE} {G : Nat → Prop} {d : PyData} (h : ∀ k, k < m → (G k ∧ ∃ s1 s2, t (emb k) (S k) = some s1 ∧ (body s1 = .nx s2 ∨ body s1 = .ct s2) ∧ fgt fg s2 = S (k + 1)) ∨ (¬ G k ∧ ∃ s1 s2, t (emb k) (S k) = some s1 ∧ body s1 = .rt false d s2)) :
    ((∀ j, j < m → G j) ∧ forL t body fg ((List.range m).map emb) (S 0) = .nx (S m)) ∨ ((∃ j, j < m ∧ ¬ G j) ∧ ∃ s', forL t body fg ((List.range m).map emb) (S 0) = .rt false d s') := by
  rw [List.range_eq_range']
  rcases forL_rgR0 (G := G) m 0 (by omega) h with ⟨a, b⟩ | ⟨⟨j, _, j2, j3⟩, b⟩
  · exact .inl ⟨fun j hj => a j (Nat.zero_le _) hj, b⟩
  · exact .inr ⟨⟨j, j2, j3⟩, b⟩
theorem whL_inv {t : AE → Rs Bool} {I : Nat → AE → Prop} {E : AE → Prop} (h : ∀ n s, I n s → (t s = .ok false ∧ E s) ∨ (t s = .ok true ∧ ∃ s2 n', (body s = .nx s2 ∨ body s = .ct s2) ∧ n' < n ∧ I n' (fgt fg s2))) :
    ∀ (N n : Nat) (s : AE), n < N → I n s → ∃ s', whL t body fg N s = .nx s' ∧ E s'
  | 0, n, s, hn, _ => by omega
  | N + 1, n, s, hn, i => by
    rw [whL_succ]
    rcases h n s i with ⟨e, x⟩ | ⟨e, s2, n', e2, hl, i2⟩
    · rw [e]; exact ⟨s, rfl, x⟩
    · rw [e]
      show ∃ s', (body s).turn fg (whL t body fg N) = _ ∧ _
      have ih := whL_inv h N n' (fgt fg s2) (by omega) i2
      rcases e2 with e2 | e2 <;> rw [e2] <;> exact ih
end
/-- a list by its places -/
theorem map_rg {α β : Type} (l : List α) (f : α → β) (d : α) : l.map f = (List.range l.length).map fun k => f (l.getD k d) := by
  apply List.ext_getElem?
  intro i
  rw [List.getElem?_map, List.getElem?_map]
  by_cases h : i < l.length
  · rw [List.getElem?_range h, List.getElem?_eq_getElem h]
    show _ = some (f (l.getD i d))
    rw [List.getD_eq_getElem?_getD, List.getElem?_eq_getElem h]
    rfl
  · rw [List.getElem?_eq_none (by omega), List.getElem?_eq_none (by rw [List.length_range]; omega)]
    rfl
theorem getD_some {α : Type} {l : List α} {k : Nat} (d : α) (h : k < l.length) : l[k]? = some (l.getD k d) := by
  rw [List.getD_eq_getElem?_getD, List.getElem?_eq_getElem h]; rfl
theorem ixT {α : Type} {l : List α} {f : α → PyData} {k : Nat} (d : α) (h : k < l.length) : ixD (.tuple (l.map f)) (.int (k : Int)) = some (dv (f (l.getD k d))) := ix_tup (by rw [List.getElem?_map, getD_some d h]; rfl)
theorem ixL {α : Type} {l : List α} {f : α → PyData} {k : Nat} (d : α) (h : k < l.length) : ixD (.list (l.map f)) (.int (k : Int)) = some (dv (f (l.getD k d))) := ix_lst (by rw [List.getElem?_map, getD_some d h]; rfl)
theorem seq_out {m u : SM} {s s' : AE} {r : Rs AV} (h1 : m s = .nx s') (h2 : (u s').out = r) : (sSeq m u s).out = r := by
  rw [sSeq_eq, h1]; exact h2
theorem seq_to {m u : SM} {s s' : AE} {r : SR} (h1 : m s = .nx s') (h2 : u s' = r) : sSeq m u s = r := by
  rw [sSeq_eq, h1]; exact h2
theorem if_no {t : AE → Rs Bool} {m u : SM} {s : AE} {r : SR} (h1 : t s = .ok false) (h2 : u s = r) : sIf t m u s = r := by
  rw [sIf_eq, h1]
  exact h2
theorem if_yes {t : AE → Rs Bool} {m u : SM} {s : AE} {r : SR} (h1 : t s = .ok true) (h2 : m s = r) : sIf t m u s = r := by
  rw [sIf_eq, h1]
  exact h2
@[simp] theorem isi_tt (l : List PyData) : isiD "tuple" (.tuple l) = some (dv (.bool true)) := rfl
@[simp] theorem isi_tl (l : List PyData) : isiD "tuple" (.list l) = some (dv (.bool false)) := rfl
@[simp] theorem isi_ti (l : Int) : isiD "tuple" (.int l) = some (dv (.bool false)) := rfl
@[simp] theorem isi_tn : isiD "tuple" .none = some (dv (.bool false)) := rfl
@[simp] theorem isi_ts (l : Str) : isiD "tuple" (.str l) = some (dv (.bool false)) := rfl
@[simp] theorem isi_ii (l : Int) : isiD "int" (.int l) = some (dv (.bool true)) := rfl
@[simp] theorem isi_bi (l : Int) : isiD "bool" (.int l) = some (dv (.bool false)) := rfl
@[simp] theorem isi_ss (l : Str) : isiD "str" (.str l) = some (dv (.bool true)) := rfl
@[simp] theorem isi_si (l : Int) : isiD "str" (.int l) = some (dv (.bool false)) := rfl
@[simp] theorem isi_sn : isiD "str" .none = some (dv (.bool false)) := rfl
@[simp] theorem lenD_t (l : List PyData) : lenD [.tuple l] = some (dv (.int l.length)) := rfl
@[simp] theorem lenD_l (l : List PyData) : lenD [.list l] = some (dv (.int l.length)) := rfl
@[simp] theorem lenD_s (l : Str) : lenD [.str l] = some (dv (.int l.length)) := rfl
theorem zipD_rg {α β : Type} {f : α → PyData} {g : β → PyData} (d : α) (e : β) : ∀ {l : List α} {k : List β}, k.length = l.length → zipD (l.map f) (k.map g) = (List.range l.length).map fun i => .tuple [f (l.getD i d), g (k.getD i e)] := by
  intro l k h
  apply List.ext_getElem?
  intro i
  unfold zipD
  rw [List.getElem?_map]
  by_cases hi : i < l.length
  · rw [List.getElem?_range hi]
    simp only [List.getElem?_zipWith, List.getElem?_map, getD_some d hi, getD_some e (show i < k.length by omega)]
    rfl
  · rw [List.getElem?_eq_none (by simp; omega), List.getElem?_eq_none (by rw [List.length_range]; omega)]
    rfl
theorem minPr_spec : ∀ (l : List (Int × Int)) (x : Int × Int), minPr x l ∈ x :: l ∧ ∀ q ∈ x :: l, SrtO.lexB q (minPr x l) = false
  | [], x => ⟨List.mem_cons_self, fun q hq => by
    rw [List.mem_singleton.mp hq]
    show SrtO.lexB x x = false
    unfold SrtO.lexB; simp⟩
  | y :: l, x => by
    obtain ⟨h1, h2⟩ := minPr_spec l (if SrtO.lexB y x then y else x)
    have e : minPr x (y :: l) = minPr (if SrtO.lexB y x then y else x) l := rfl
    rw [e]
    refine ⟨?_, fun q hq => ?_⟩
    · rcases List.mem_cons.mp h1 with h | h
      · rw [h]; split <;> simp
      · exact List.mem_cons_of_mem _ (List.mem_cons_of_mem _ h)
    · have h0 := h2 _ List.mem_cons_self
      generalize hm : minPr (if SrtO.lexB y x then y else x) l = m at *
      have tr : ∀ a b c : Int × Int, SrtO.lexB a b = false → SrtO.lexB b c = false → SrtO.lexB a c = false := by
        intro a b c
        unfold SrtO.lexB
        split <;> split <;> split <;> simp only [decide_eq_false_iff_not] <;> omega
      have as : ∀ a b : Int × Int, SrtO.lexB a b = true → SrtO.lexB b a = false := by
        intro a b
        unfold SrtO.lexB
        split <;> split <;> simp only [decide_eq_false_iff_not, decide_eq_true_eq] <;> omega
      rcases List.mem_cons.mp hq with rfl | hq
      · by_cases hy : SrtO.lexB y q = true
        · rw [if_pos hy] at h0
          exact tr _ _ _ (as _ _ hy) h0
        · rw [if_neg hy] at h0; exact h0
      · rcases List.mem_cons.mp hq with rfl | hq
        · by_cases hy : SrtO.lexB q x = true
          · rw [if_pos hy] at h0; exact h0
          · rw [if_neg hy] at h0
            exact tr _ _ _ (Bool.not_eq_true _ ▸ hy) h0
        · exact h2 q (List.mem_cons_of_mem _ hq)
/-- min over pairs, told by what it is -/
theorem min_prs {l : List (Int × Int)} (h : l ≠ []) : ∃ p ∈ l, (∀ q ∈ l, p.1 < q.1 ∨ (p.1 = q.1 ∧ p.2 ≤ q.2)) ∧ pickAD PySem.W.minD [.list (l.map prD)] = some (dv (prD p)) := by
  cases l with
  | nil => exact absurd rfl h
  | cons x l =>
    obtain ⟨h1, h2⟩ := minPr_spec l x
    refine ⟨_, h1, fun q hq => ?_, ?_⟩
    · have := h2 q hq
      unfold SrtO.lexB at this
      split at this <;> simp only [decide_eq_false_iff_not] at this <;> omega
    · show (if al2 ((x :: l).map prD) = true then _ else _) = _
      rw [if_pos (al2_pr _), minD_pr]
section
variable {it : AE → Rs (List PyData)} {ls : List Nat} {t : TgM} {body : SM} {fg : List Nat} {emb : Nat → PyData} {m : Nat} {s s' : AE}
theorem for_rgS {S : Nat → AE} (hit : it s = .ok ((List.range m).map emb)) (hs : fgt fg (lend ls s) = S 0)
    (h : ∀ k, k < m → ∃ s1 s2, t (emb k) (S k) = some s1 ∧ (body s1 = .nx s2 ∨ body s1 = .ct s2) ∧ fgt fg s2 = S (k + 1)) (hu : unl s ls (S m) = s') : sFor it ls t body fg s = .nx s' := by
  rw [sFor_eq, hit]
  show SR.map _ (forL _ _ _ _ (fgt fg (lend ls s))) = _
  rw [hs, forL_rgS h, ← hu]
  rfl
theorem for_rgI {I : Nat → AE → Prop} {Q : AE → Prop} {s0 : AE} (hit : it s = .ok ((List.range m).map emb)) (hs : fgt fg (lend ls s) = s0) (i : I 0 s0)
    (h : ∀ k s, k < m → I k s → ∃ s1 s2, t (emb k) s = some s1 ∧ (body s1 = .nx s2 ∨ body s1 = .ct s2) ∧ I (k + 1) (fgt fg s2)) (k : ∀ s', I m s' → Q (unl s ls s')) : ∃ s', sFor it ls t body fg s = .nx s' ∧ Q s' := by
  obtain ⟨s1, e, i1⟩ := forL_rgI (t := t) (body := body) (fg := fg) (emb := emb) i h
  refine ⟨unl s ls s1, ?_, k s1 i1⟩
  rw [sFor_eq, hit]
  show SR.map _ (forL _ _ _ _ (fgt fg (lend ls s))) = _
  rw [hs, e]
  rfl
/-- over a list, the state by what was walked -/
theorem for_pre {α : Type} {emb : α → PyData} {S : List α → AE} (l : List α) (hit : it s = .ok (l.map emb)) (hs : fgt fg (lend ls s) = S [])
    (h : ∀ pre a post, l = pre ++ a :: post → ∃ s1 s2, t (emb a) (S pre) = some s1 ∧ (body s1 = .nx s2 ∨ body s1 = .ct s2) ∧ fgt fg s2 = S (pre ++ [a])) (hu : unl s ls (S l) = s') : sFor it ls t body fg s = .nx s' := by
  rw [sFor_eq, hit]
  show SR.map _ (forL _ _ _ _ (fgt fg (lend ls s))) = _
  rw [hs, forL_pre l h, ← hu]
  rfl
theorem wh_I {t : AE → Rs Bool} {N : Nat} {I : Nat → AE → Prop} {E Q : AE → Prop} {s0 : AE} (n : Nat) (hn : n < N) (hs : fgt fg s = s0) (i : I n s0)
    (h : ∀ n s, I n s → (t s = .ok false ∧ E s) ∨ (t s = .ok true ∧ ∃ s2 n', (body s = .nx s2 ∨ body s = .ct s2) ∧ n' < n ∧ I n' (fgt fg s2))) (k : ∀ s', E s' → Q s') : ∃ s', sWhile N t body fg s = .nx s' ∧ Q s' := by
  obtain ⟨s1, e, i1⟩ := whL_inv h N n s0 hn i
  refine ⟨s1, ?_, k s1 i1⟩
  show whL t body fg N (fgt fg s) = _
  rw [hs]
  exact e
theorem seq_outE {m u : SM} {s : AE} {r : Rs AV} (h : ∃ s', m s = .nx s' ∧ (u s').out = r) : (sSeq m u s).out = r := let ⟨_, h1, h2⟩ := h; seq_out h1 h2
theorem seq_toE {m u : SM} {s : AE} {r : SR} (h : ∃ s', m s = .nx s' ∧ u s' = r) : sSeq m u s = r := let ⟨_, h1, h2⟩ := h; seq_to h1 h2
end
theorem seqP {P : SR → Prop} {m u : SM} {s : AE} (h : ∃ s', m s = .nx s' ∧ P (u s')) : P (sSeq m u s) := by
  obtain ⟨s', h1, h2⟩ := h
  rw [sSeq_eq, h1]; exact h2
theorem seqP1 {P : SR → Prop} {m u : SM} {s s' : AE} (h1 : m s = .nx s') (h2 : P (u s')) : P (sSeq m u s) := seqP ⟨s', h1, h2⟩
end DL
namespace DL
open PySem PySem.Spec PyProof.Rows L2
def plainB (K : Fr) (x : Str) : Bool := match K.lookup (He.ga K x) with
  | some o => o.dict.isNone
  | none => false
theorem tyV_g {K : Fr} {x : Str} {ds : List He.Dv} {H : Hp} (ht : He.tupB K x ds = true) (hp : plainB K x = true) : tyV K "tuple" (.ref (He.ga K x)) H := by
  unfold He.tupB at ht
  unfold plainB at hp
  cases q : K.lookup (He.ga K x) with
  | none => rw [q] at hp; cases hp
  | some o =>
    rw [q] at hp ht
    refine .inr (.inl ⟨rfl, o, q, ?_, ?_⟩)
    · obtain ⟨oc, od, dt, osl⟩ := o
      cases oc with
      | type c =>
        cases dt with
        | seq its n =>
          simp only [Bool.and_eq_true, decide_eq_true_eq] at ht
          show Value.type c = _
          rw [ht.1]
        | _ => cases ht
      | _ => cases ht
    · exact Option.isNone_iff_eq_none.mp hp
def strsD : List PyData → Option (List Str)
  | [] => some []
  | .str z :: l => (strsD l).map (z :: ·)
  | _ => none
theorem strsD_eq : ∀ {l : List PyData} {ys : List Str}, strsD l = some ys → l = ys.map PyData.str
  | [], _, h => by cases h; rfl
  | .str i :: l, _, h => by
    unfold strsD at h
    cases e : strsD l with
    | none => rw [e] at h; cases h
    | some ms => rw [e] at h; cases h; rw [strsD_eq e]; rfl
  | .none :: _, _, h => by cases h
  | .bool _ :: _, _, h => by cases h
  | .int _ :: _, _, h => by cases h
  | .list _ :: _, _, h => by cases h
  | .tuple _ :: _, _, h => by cases h
  | .dict _ :: _, _, h => by cases h
theorem fz_strs {K : Fr} {P : Pd} {H : Hp} : ∀ {xs : List V} {ys : List Str}, FzA K P H xs (ys.map PyData.str) → xs = ys.map V.str
  | _, [], h => by cases h; rfl
  | _, n :: ns, h => by
    cases h with
    | cons a b =>
      cases a
      rw [fz_strs b]
      rfl
def idxS (z : Str) : List Str → Option Nat
  | [] => none
  | y :: ys => if y = z then some 0 else (idxS z ys).map (· + 1)
theorem idxS_ok {z : Str} : ∀ {ys : List Str} {j : Nat}, idxS z ys = some j → ys[j]? = some z ∧ ∀ m, m < j → ys[m]? ≠ some z
  | [], _, h => by cases h
  | y :: ys, j, h => by
    unfold idxS at h
    split at h
    · rename_i e
      cases h
      exact ⟨by rw [e]; rfl, fun m hm => by omega⟩
    · rename_i e
      cases q : idxS z ys with
      | none => rw [q] at h; cases h
      | some i =>
        rw [q] at h; cases h
        obtain ⟨h1, h2⟩ := idxS_ok q
        refine ⟨by simpa using h1, fun m hm => ?_⟩
        cases m with
        | zero => intro z; exact e (by simpa using z)
        | succ m => intro z; exact h2 m (by have : m + 1 < i + 1 := hm; omega) (by simpa using z)
def tixD : PyData → PyData → Option AV
  | .tuple l, .str z => (strsD l).bind fun ys => (idxS z ys).map fun j => dv (.int (j : Nat))
  | _, _ => none
section
variable {X : Cx} {W : WX} {x : Str} {e : Expr} {gb : AE → Rs PyData} {p apos cpos : Pos}
theorem de_gindex {ds : List He.Dv} (hg : Gl X x) (hm : X.mg x = some (.ref (He.ga X.K x))) (ht : He.tupB X.K x ds = true) (hp : plainB X.K x = true) (ho : ds.all dvOk = true) (he : DR X W e gb) (hd : (x == ("__debug__" : Str)) = false := by decide)
    (hbase : attributeBase (.Name x p) "index" X.env (eval (.Name x p) X.env) = eval (.Name x p) X.env := by rfl)
    (hfew : ((backTo cpos (starEach [e] X.env)).all (fun x => !x.1) && (backToKw cpos (keywordEach [] X.env)).all (fun x => x.1.isSome) && decide (([e] : List Expr).length + ([] : List Keyword).length + (if ([] : List Keyword).isEmpty then 0 else 1) < 30)) = true := by rfl)
    (hline : (apos.endLine == cpos.line) = true := by rfl) (hs : starEach [e] X.env = (false, eval e X.env) :: starEach [] X.env := by rfl) (hplain : (backTo cpos (starEach [] X.env)).any (·.1) = false := by rfl) :
    DE X W (.Call (.Attribute (.Name x p) "index" apos) [e] [] cpos) (eU (tixD (.tuple (ds.map dvD))) gb) :=
  pe_mono (pe_bm PySem.F.plainAttrs_tuple PySem.F.slot_tuple_index PySem.F.type_tuple_index mt_tup_index (pe_glob (v := .ref (He.ga X.K x)) hg hm rfl hd) (pa_cons he pa_nil hs) hbase hfew hline hs hplain) fun σ H Q ⟨c, σa, Z, q⟩ =>
    ⟨tyV_g ht hp, c, σa, Z, (Go.bind q).mono fun d q v H1 k1 r1 => by
      obtain ⟨av, ev, q⟩ := go_of q
      unfold tixD at ev
      split at ev
      · rename_i l z he
        cases he
        cases es : strsD (ds.map dvD) with
        | none => rw [es] at ev; cases ev
        | some ys =>
          rw [es] at ev
          cases ej : idxS z ys with
          | none => have : (none : Option AV) = some av := by simpa [ej] using ev
                    cases this
          | some j =>
            have ev : some (dv (.int (j : Nat))) = some av := by simpa [ej] using ev
            cases ev
            obtain ⟨rfl, _⟩ := br_str r1
            obtain ⟨h1, h2⟩ := idxS_ok ej
            have fx := fz_strs (by rw [← strsD_eq es]; exact dvs_fz (K := X.K) (P := fun _ => False) (H := H1) ho)
            refine ⟨_, ys, z, j, rfl, rfl, ?_, h1, h2, fin_v (Z.kp k1) (fun v' H' k3 r3 => q v' H' (k1.trans k3) (r3.base k1.k)) (.int _)⟩
            rw [← fx]
            exact He.tupB_ok ht H1
      · cases ev⟩
end
def hnd : List (Cat × SM) → Str → AE → SR
  | [], e, s => .ex e s
  | (ct, h) :: r, e, s => match ct e with
    | some true => h s
    | some false => hnd r e s
    | none => .st
def sTryM (hs : List (Cat × SM)) (m : SM) : SM := fun s => match m s with
  | .ex e s' => hnd hs e s'
  | r => r
def DHs (X : Cx) (W : WX) (hds : List ExceptHandler) (hs : List (Cat × SM)) : Prop := ∃ l, HdsOk X hds l ∧ ∀ (D : Ends) (c : RC) (e : Str) (s : AE) (σ : L2.St) (H : Hp), Rst X.K c H s σ → GoS X.K W c D (hnd hs e s) → wMany X.K W D l (.ref (He.ga X.K e)) none σ H
section
variable {X : Cx} {W : WX} {x : Str} {c : Value} {body suite : List Stmt} {b₀ : Stmt} {np pos pos' : Pos} {m h : SM} {ct : Cat} {hds : List ExceptHandler} {h₀ : ExceptHandler} {hs : List (Cat × SM)}
theorem dh_nil : DHs X W [] [] := ⟨[], .nil, fun D c e s σ H Z q => q σ H Z⟩
theorem dh_cons (hc : Names X x c) (hct : ∀ e b, ct e = some b → PySem.W.exmOne X.K (.ref (He.ga X.K e)) c = some b)
    (hsu : ∀ (a : Addr) (oe : Obj) (cls : Value) (d : Option Addr) (pn : List (Addr × Obj)), Zc cls d oe → (∃ vs, oe.data = .fields vs) → DB (X.suite a ((a, oe) :: pn)) W (b₀ :: suite) h) (r : DHs X W hds hs) :
    DHs X W (.ExceptHandler (some (.Name x np)) none (b₀ :: suite) pos' :: hds) ((ct, h) :: hs) := by
  obtain ⟨l, hk, r⟩ := r
  refine ⟨(c, fun _ _ _ => tS X.K W h) :: l, .cons hc hsu hk, fun D c' e s σ H Z q => ?_⟩
  unfold hnd at q
  cases ec : ct e with
  | none => rw [ec] at q; exact q.elim
  | some b =>
    rw [ec] at q
    refine ⟨b, hct e b ec, fun hb => ?_, fun hb => ?_⟩
    · subst hb; exact fun a _ => ⟨c', s, Z, q⟩
    · subst hb; exact r D c' e s σ H Z q
theorem ds_tryM (hst : X.stack = X.env :: X.outer) (hf : X.env.frame = some X.env.locals) (tk : Takes X W)
    (hb : ∀ (W : WX) (pn : List (Addr × Obj)) (xe : Value → Shared → Prop), Takes (X.tr pn xe) W → PassesOwn (model X.prog X.w) X.A X.env xe → DB (X.tr pn xe) W body m) (hh : DHs X W (h₀ :: hds) hs) :
    DS X W (.Try body (h₀ :: hds) [] [] pos) (sTryM hs m) := by
  obtain ⟨l, hk, r⟩ := hh
  exact ps_mono (ps_try_many (tb := fun W => tS X.K W m) (Wout := W) hst hf tk hb hk) fun D σ H ⟨c', σa, Z, q⟩ => ⟨c', σa, Z, by
    unfold sTryM at q
    cases e : m σa with
    | ex x s =>
      rw [e] at q
      exact fun σ' H' Z' => r D c' x s σ' H' Z' q
    | _ => rw [e] at q; exact q⟩
end
end DL
namespace DL
open PySem PySem.Spec PyProof.Rows L2
/-- the signs of a text, as texts -/
def signsD (x : Str) : List PyData := x.cps.toList.map fun c => .str ⟨#[c]⟩
/-- the items of a list, a tuple, a text -/
def itemsA : PyData → Rs (List PyData)
  | .list l => .ok l
  | .tuple l => .ok l
  | .str x => .ok (signsD x)
  | _ => .st
@[simp] theorem itemsA_l (l : List PyData) : itemsA (.list l) = .ok l := rfl
@[simp] theorem itemsA_t (l : List PyData) : itemsA (.tuple l) = .ok l := rfl
@[simp] theorem itemsA_s (x : Str) : itemsA (.str x) = .ok (signsD x) := rfl
def iSeqA (f : AE → Rs AV) : AE → Rs (List PyData) := fun s => (rd f s).bind itemsA
theorem yl_str {K : Fr} {P inn : Pd} {ts : List Addr} {H1 : Hp} {x : Str} (h : PyData.canLay0 (.str x) = true) : Yl K P inn ts H1 (Its x) (signsD x) := fun j H2 k t => by
  refine ⟨fun d hd => ?_, fun hl => ?_⟩
  · unfold signsD at hd
    rw [List.getElem?_map] at hd
    cases e : x.cps.toList[j]? with
    | none => rw [e] at hd; cases hd
    | some c =>
      rw [e] at hd
      cases hd
      have hj : j < x.cps.size := by simpa using (List.getElem?_eq_some_iff.mp e).1
      refine ⟨hj, fun v H3 z => ?_⟩
      obtain ⟨rfl, c', hc, rfl⟩ := z
      have : c' = c := by
        rw [Array.getElem?_toList] at e
        rw [e] at hc
        cases hc; rfl
      subst this
      exact ⟨⟨Keep.refl _ _, t⟩, fun _ _ => .str _ (str_one h (List.mem_of_getElem? e)) (by show 1 ≤ 100000; decide)⟩
  · unfold signsD at hl
    show x.cps.size ≤ j
    simpa using hl
section
variable {X : Cx} {W : WX} {e a b tg : Expr} {f : AE → Rs AV} {g h : AE → Rs PyData} {gs : AL} {pos p : Pos} {ls : List Nat}
theorem di_seqA (he : DE X W e f) : DI X W tg e (iSeqA (lsFor f ls)) ls := pi_mono (pi_or (pi_or (pi_list he) (pi_tup he)) (pi_str he)) fun σ H R ⟨c, σa, Z, q⟩ => by
  have q := go_ls (Go.bind (show Go X.K W c σ H (((lsFor f ls σa).bind (gt σa)).bind itemsA) _ from q))
  cases ef : f σa with
  | st => rw [ef] at q; exact q.elim
  | ex x => rw [ef] at q; exact .inl (.inl ⟨c, σa, Z, by rw [ef]; exact q⟩)
  | ok av =>
    rw [ef] at q
    obtain ⟨hls, q⟩ := q
    obtain ⟨d, ed, q⟩ := go_gt q
    cases d with
    | list l =>
      refine .inl (.inl ⟨c, σa, Z, ?_⟩)
      rw [ef]
      intro v H1 k1 r1
      obtain ⟨a, xs, rfl, s, f1, na⟩ := seq_l Z k1 r1 hls ed
      exact ⟨a, rfl, ⟨xs, .inl (.inl s)⟩, q _ H1 k1 (yl_lst s f1 lend_rt na)⟩
    | tuple l =>
      refine .inl (.inr ⟨c, σa, Z, ?_⟩)
      rw [ef]
      intro v H1 k1 r1
      obtain ⟨a, xs, rfl, s, f1⟩ := seq_t Z k1 r1 ed
      exact ⟨a, rfl, ⟨xs, s⟩, q _ H1 k1 (yl_tup s f1 lend_rt)⟩
    | str x =>
      refine .inr ⟨c, σa, Z, ?_⟩
      rw [ef]
      intro v H1 k1 r1
      obtain ⟨rfl, h1, _⟩ := br_str (r1.br (Z.kp k1) ed)
      exact ⟨x, rfl, q _ H1 k1 (yl_str h1)⟩
    | _ => exact (show False from q).elim
/-- int -/
def intAD : List PyData → Option AV
  | [.int i] => some (dv (.int i))
  | [.bool b] => some (dv (.int (if b then 1 else 0)))
  | [.str x] => if x.length ≤ 640 then (PySem.intText? x).map fun n => dv (.int n) else none
  | _ => none
theorem de_intA (hg : Gl X "int") (hm : X.mg "int" = none) (ha : DAr X W [e] gs) (he : starEach [e] X.env = (false, eval e X.env) :: starEach [] X.env := by rfl) : DE X W (.Call (.Name "int" p) [e] [] pos) (eCall intAD gs) := de_callTy (CallR.or call_int1 call_int_str) (fun c σa σ H vs ds av Q Z h ev q => by
  unfold intAD at ev
  split at ev
  · cases ev
    obtain ⟨v, rfl, hb⟩ := brA1 h
    cases br_int hb
    exact .inl (.inl ⟨_, rfl, fin_v Z q (.int _)⟩)
  · cases ev
    obtain ⟨v, rfl, hb⟩ := brA1 h
    cases br_bool hb
    exact .inl (.inr ⟨_, rfl, fin_v Z q (.int _)⟩)
  · rename_i x
    by_cases hl : x.length ≤ 640
    · rw [if_pos hl] at ev
      cases en : PySem.intText? x with
      | none => rw [en] at ev; cases ev
      | some n =>
        rw [en] at ev; cases ev
        obtain ⟨v, rfl, hb⟩ := brA1 h
        obtain ⟨rfl, _⟩ := br_str hb
        exact .inr ⟨_, _, rfl, en, hl, fin_v Z q (.int _)⟩
    · rw [if_neg hl] at ev; cases ev
  · cases ev) hg hm PyProof.Rows.boot_int ha (he := he)
end
end DL
namespace DL
open PySem PySem.Spec PyProof.Rows L2
@[simp] theorem pNone_eq (s : AE) : pNone s = .ok none := rfl
/-- a part of a slice from its data -/
def ixO : PyData → Rs (Option Int)
  | .int i => .ok (some i)
  | _ => .st
@[simp] theorem ixO_i (i : Int) : ixO (.int i) = .ok (some i) := rfl
@[simp] theorem pSome_eq (g : AE → Rs PyData) (s : AE) : pSome g s = (g s).bind ixO := by
  unfold pSome
  cases g s with
  | ok d => cases d <;> rfl
  | _ => rfl
@[simp] theorem eCut_eq (ga : AE → Rs PyData) (lo hi : SP) (s : AE) : eCut ga lo hi s = (ga s).bind fun d => (lo s).bind fun l => (hi s).bind fun h => Rs.of (DL.cutD l h d) := rfl
@[simp] theorem iSeqA_eq (f : AE → Rs AV) (s : AE) : iSeqA f s = (rd f s).bind itemsA := rfl
/-- a text of one sign -/
def sgn (c : Nat) : PyData := .str ⟨#[c]⟩
theorem strLt_sgn (a b : Nat) : strLt ⟨#[a]⟩ ⟨#[b]⟩ = decide (a < b) := by
  unfold strLt
  apply decide_eq_decide.mpr
  show [a] < [b] ↔ a < b
  rw [List.cons_lt_cons_iff]
  simp
theorem leD_sgn (a b : Nat) : leD (sgn a) (sgn b) = some (dv (.bool (decide (a ≤ b)))) := by
  show some (dv (.bool (!strLt ⟨#[b]⟩ ⟨#[a]⟩))) = _
  rw [strLt_sgn]
  congr 3
  by_cases h : a ≤ b
  · simp [h]
  · simp [h]; omega
theorem addD_s {a b : Str} (h : lenOk (a.length + b.length)) : addD (.str a) (.str b) = some (dv (.str (a ++ b))) := if_pos h
theorem eqvS (a b : Str) : PyData.eqv (.str a) (.str b) = decide (a = b) := by
  simp only [PyData.eqv]
  by_cases h : a = b
  · simp [h]
  · simp [h]
@[simp] theorem neD_s (a b : Str) : neD (.str a) (.str b) = some (dv (.bool (!decide (a = b)))) := by
  show (if _ then _ else _) = _
  rw [if_pos ⟨rfl, rfl⟩, eqvS]
@[simp] theorem eqD_s (a b : Str) : eqD (.str a) (.str b) = some (dv (.bool (decide (a = b)))) := by
  show (if _ then _ else _) = _
  rw [if_pos ⟨rfl, rfl⟩, eqvS]
/-- two figures -/
def tw (x : Nat) : Str := ⟨#[48 + x / 10, 48 + x % 10]⟩
theorem strI_1 : ∀ x : Nat, x < 10 → strI (x : Int) = ⟨#[48 + x]⟩ := by decide +kernel
theorem strI_2 : ∀ x : Nat, x < 100 → 10 ≤ x → strI (x : Int) = tw x := by decide +kernel
theorem strOk_2 : ∀ x : Nat, x < 100 → strOkI (x : Int) = true := by decide +kernel
theorem intT_1 : ∀ x : Nat, x < 10 → PySem.intText? ⟨#[48 + x]⟩ = some (x : Int) := by decide +kernel
theorem intT_2 : ∀ x : Nat, x < 100 → PySem.intText? (tw x) = some (x : Int) := by decide +kernel
theorem strD_1 {x : Nat} (h : x < 10) : strD [.int (x : Int)] = some (dv (sgn (48 + x))) := by
  show (if _ then _ else _) = _
  rw [if_pos (strOk_2 x (by omega)), strI_1 x h]; rfl
theorem strD_2 {x : Nat} (h : x < 100) (h2 : 10 ≤ x) : strD [.int (x : Int)] = some (dv (.str (tw x))) := by
  show (if _ then _ else _) = _
  rw [if_pos (strOk_2 x h), strI_2 x h h2]
end DL
namespace DL
open PySem PySem.Spec PyProof.Rows L2 PySem.W
/-- tuples that can be put in order -/
def cmpOk (d e : PyData) : Bool := alike d e && (fit 60 d && fit 60 e)
def rCmpD (K : Fr) (p : PyData → PyData → Bool) : R2 := fun x y H Q => ∃ d e, Dp K H x d ∧ Dp K H y e ∧ alike d e = true ∧ d ≠ .none ∧ d.depth ≤ 60 ∧ Q (.bl (p d e)) H
section
variable {X : Cx} {k : Nat}
theorem op_ltX (hr : Room k X.A) : OpR X (compareOp .Lt) (rCmpD X.K dataLt) := by
  intro pins s σ H x y v u Q I rx ry h
  obtain ⟨d, e, h1, h2, al, hn, hd, q⟩ := h
  obtain ⟨as, r1⟩ := Dp.reads I d x v h1 rx
  obtain ⟨bs, r2⟩ := Dp.reads I e y u h2 ry
  exact lt_data r1 r2 al hn (by have := hr.un; omega) ⟨.bl _, H, I, rfl, q⟩
theorem op_gtX (hr : Room k X.A) : OpR X (compareOp .Gt) (rCmpD X.K fun d e => dataLt e d) := by
  intro pins s σ H x y v u Q I rx ry h
  obtain ⟨d, e, h1, h2, al, hn, hd, q⟩ := h
  obtain ⟨as, r1⟩ := Dp.reads I d x v h1 rx
  obtain ⟨bs, r2⟩ := Dp.reads I e y u h2 ry
  exact gt_data r1 r2 al hn (by have := hr.un; omega) ⟨.bl _, H, I, rfl, q⟩
theorem op_leX (hr : Room k X.A) : OpR X (compareOp .LtE) (rCmpD X.K fun d e => !dataLt e d) := by
  intro pins s σ H x y v u Q I rx ry h
  obtain ⟨d, e, h1, h2, al, hn, hd, q⟩ := h
  obtain ⟨as, r1⟩ := Dp.reads I d x v h1 rx
  obtain ⟨bs, r2⟩ := Dp.reads I e y u h2 ry
  exact le_data r1 r2 al hn (by have := hr.un; omega) ⟨.bl _, H, I, rfl, q⟩
theorem op_geX (hr : Room k X.A) : OpR X (compareOp .GtE) (rCmpD X.K fun d e => !dataLt d e) := by
  intro pins s σ H x y v u Q I rx ry h
  obtain ⟨d, e, h1, h2, al, hn, hd, q⟩ := h
  obtain ⟨as, r1⟩ := Dp.reads I d x v h1 rx
  obtain ⟨bs, r2⟩ := Dp.reads I e y u h2 ry
  exact ge_data r1 r2 al hn (by have := hr.un; omega) ⟨.bl _, H, I, rfl, q⟩
end
/-- of tuples by p, else as before -/
def orTup (p : PyData → PyData → Bool) (op : PyData → PyData → Option AV) : PyData → PyData → Option AV
  | .tuple x, .tuple y => if cmpOk (.tuple x) (.tuple y) = true then some (dv (.bool (p (.tuple x) (.tuple y)))) else none
  | d, e => op d e
theorem b2_tup {K : Fr} {p : PyData → PyData → Bool} {op : PyData → PyData → Option AV} {r : R2} (h : B2 K op r) : B2 K (orTup p op) (fun x y H Q => r x y H Q ∨ rCmpD K p x y H Q) := by
  intro c σa σ H v w d e av Q Z h1 h2 ev q
  unfold orTup at ev
  split at ev
  · rename_i x y
    by_cases hc : cmpOk (.tuple x) (.tuple y) = true
    · rw [if_pos hc] at ev
      cases ev
      unfold cmpOk at hc
      simp only [Bool.and_eq_true] at hc
      obtain ⟨al, f1, f2⟩ := hc
      exact .inr ⟨_, _, (br_shaped h1 f1).1, (br_shaped h2 f2).1, al, (by intro z; cases z), fit_depth f1, fin_v Z q (.bl _)⟩
    · rw [if_neg hc] at ev; cases ev
  · exact .inl (h c σa σ H v w d e av Q Z h1 h2 ev q)
abbrev ltXD := orTup dataLt ltD
abbrev gtXD := orTup (fun d e => dataLt e d) gtD
abbrev leXD := orTup (fun d e => !dataLt e d) leD
abbrev geXD := orTup (fun d e => !dataLt d e) geD
section
variable {X : Cx} {W : WX} {a b : Expr} {ga gb : AE → Rs PyData} {pos : Pos} {k : Nat}
theorem dc_ltX (hr : Room k X.A) (ha : DR X W a ga) (hb : DR X W b gb) : DC X W (.Compare a [.Lt] [b] pos) (eB ltXD ga gb) := dc_cmp (or_lt.or (op_ltX hr)) (b2_tup b2_lt) (nobehind b (by decide) (by decide)) ha hb
theorem dc_gtX (hr : Room k X.A) (ha : DR X W a ga) (hb : DR X W b gb) : DC X W (.Compare a [.Gt] [b] pos) (eB gtXD ga gb) := dc_cmp (or_gt.or (op_gtX hr)) (b2_tup b2_gt) (nobehind b (by decide) (by decide)) ha hb
theorem dc_leX (hr : Room k X.A) (ha : DR X W a ga) (hb : DR X W b gb) : DC X W (.Compare a [.LtE] [b] pos) (eB leXD ga gb) := dc_cmp (or_le.or (op_leX hr)) (b2_tup b2_le) (nobehind b (by decide) (by decide)) ha hb
theorem dc_geX (hr : Room k X.A) (ha : DR X W a ga) (hb : DR X W b gb) : DC X W (.Compare a [.GtE] [b] pos) (eB geXD ga gb) := dc_cmp (or_ge.or (op_geX hr)) (b2_tup b2_ge) (nobehind b (by decide) (by decide)) ha hb
end
@[simp] theorem orTup_i (p : PyData → PyData → Bool) (op : PyData → PyData → Option AV) (i j : Int) : orTup p op (.int i) (.int j) = op (.int i) (.int j) := rfl
@[simp] theorem orTup_s (p : PyData → PyData → Bool) (op : PyData → PyData → Option AV) (i j : Str) : orTup p op (.str i) (.str j) = op (.str i) (.str j) := rfl
end DL
namespace L2
open PySem PySem.Spec PyProof.Rows
abbrev vacO (w : World) : Obj := { cls := .type "set", dict := none, data := .set #[] 0 (.fresh 0 0 (!w.params.followText "set-order")) }
section
variable {P : Program} {w : World} {A : Around} {E : Value → Shared → Prop} {s : Shared}
/-- what the filling of the new set leaves -/
def Filled (w : World) (s : Shared) (ns : List Int) (s2 : Shared) : Prop := ∃ h2 tk c, s2 = { s with heap := h2, toks := tk } ∧ SetR w h2 s.heap.objs.size (fun j => decide (j ∈ ns)) c ∧ c ≤ ns.length ∧ ∀ b o, s.heap.get? b = some o → h2.get? b = some o
theorem fill_end {ns : List Int} {I : Addr} {s' : Shared} {c : Nat} (hI : I = s.heap.objs.size + 1) {ob : Obj} (m : Moved [s.heap.objs.size, I] (fun a b => b = a) { s with heap := (s.heap.push (vacO w)).push ob } s') (hc : c ≤ ns.length) (R : SetR w s'.heap s.heap.objs.size (fun j => decide (j ∈ ns)) c) : Filled w s ns s' := by
  obtain ⟨h', g2, d', tk', os'⟩ := s'
  cases m.gens
  cases m.drawn
  cases m.os
  refine ⟨h', tk', c, rfl, R, hc, fun b o e => m.heap b o ?_ (Heap.get?_push_of_some _ (Heap.get?_push_of_some _ e))⟩
  have lt := Heap.lt_size e
  simp only [List.mem_cons, List.not_mem_nil, or_false, not_or]
  exact ⟨Nat.ne_of_lt lt, by rw [hI]; exact Nat.ne_of_lt (Nat.lt_succ_of_lt lt)⟩
theorem set_of_list {l : Addr} {vs : Array Value} (ns : List Int) {Q : Value → Shared → Prop} (hA : A.handled = none) (hl : s.heap.IsList l vs) (hv : IntsAre vs.toList ns) (hn : ns.length + 1 < scanBound)
    (k : ∀ (h2 : Heap) (tk c : Nat), SetR w h2 s.heap.objs.size (fun j => decide (j ∈ ns)) c → c ≤ ns.length → (∀ b o, s.heap.get? b = some o → h2.get? b = some o) → Q (.ref s.heap.objs.size) { s with heap := h2, toks := tk }) : wpAny (model P w) A (call (.type "set") [.ref l]) Q E s := by
  have hz : vs.size = ns.length := by rw [← Array.length_toList]; exact IntsAre.length hv
  obtain ⟨c0, tl0, mro0⟩ := F.called_set.mro
  have made0 := F.called_set.made; have sub0 := F.called_set.sub
  refine wpAny_call (codeAny_of_tree (show wpAny _ _ (callAny (.type "set") _) _ _ _ from wpAny_pure ⟨Code.quiet_builtin _ (by decide +kernel), codeAny_builtin F.entry_type_call ?_⟩))
  rw [Around.under_plain (weight_type_call_type "set" [.ref l] []) rfl]
  have nt0 := F.called_set.notType; have cc0 := F.called_set.canCreate; have tc0 := F.typeCall_set_1 (.ref l)
  repeat (any_goals (first | assumption | wp_step))
  refine codeAny_mono (code_set_led1 (.ref l) (E := E) (Q₁ := fun v s1 => v = .ref s.heap.objs.size ∧ s1 = { s with heap := s.heap.push (vacO w) }) ⟨rfl, rfl⟩) fun r s1 z => ?_
  match r, z with
  | .error e, z => exact z
  | .ok (.ret v), ⟨e1, e2⟩ =>
    subst e1 e2
    have gS : (s.heap.push (vacO w)).get? s.heap.objs.size = some (vacO w) := Heap.get?_push_size _ rfl
    have tS : Shared.TypeIs { s with heap := s.heap.push (vacO w) } (.ref s.heap.objs.size) "set" := ⟨_, gS, rfl⟩
    have li0 := F.called_set.init.lookup; have bi0 := F.called_set.init.bind (.ref s.heap.objs.size)
    repeat (any_goals (first | assumption | wp_step))
    refine codeAny_mono (codeAny_call_builtin (R := wants (fun r s2 => r = .none ∧ Filled w s ns s2) E) F.called_set.init.plain F.entry_set_init (check_set_init_1 tS ?_)) fun r2 s2 z2 => ?_
    · obtain ⟨⟨oc, od, dt, os⟩, ho, hc, nl, hd⟩ := hl
      cases hc
      cases hd
      have go : (s.heap.push (vacO w)).get? l = some { cls := .type "list", dict := od, data := .seq vs nl, slots := os } := Heap.get?_push_of_some _ ho
      have s1 := F.sub_list_set; have s2 := F.sub_list_frozenset
      have nd : (Value.type "list" == Value.type "dict") = false := by decide
      have il : (s.heap.push (vacO w)).IsList l vs := ⟨_, go, rfl, nl, rfl⟩
      unfold Builtin.«set.__init__» noKeywords Builtin.Frozenset.updateFrom
      generalize ePI : pyIter = PI
      wp_walk
      subst ePI
      refine wpAny_pyIter_list il (wpAny_bind (wpAny_runValue ?_))
      have lS : l < s.heap.objs.size := Heap.lt_size ho
      have sz : (s.heap.push (vacO w)).objs.size = s.heap.objs.size + 1 := Heap.size_push ..
      have hA3 : A.in1.in1.in1.handled = none := by simp [hA]
      have vals : ∀ (i : Nat) (v : Value), vs[i]? = some v → ∃ n t, ns[i]? = some n ∧ v = .int n t := fun i v hi => by
        have lt : i < ns.length := by rw [← hz]; exact (Array.getElem?_eq_some_iff.mp hi).1
        obtain ⟨t, e⟩ := IntsAre.int_at hv i v (by rw [Array.getElem?_toList]; exact hi)
        rw [List.getD_eq_getElem?_getD, List.getElem?_eq_getElem lt] at e
        exact ⟨ns[i], t, List.getElem?_eq_getElem lt, e⟩
      refine set_update_ints ((Walks.list hA3 _ l (by rw [sz]; exact Nat.ne_of_lt (Nat.lt_succ_of_lt lS)) vs).toS) s.heap.objs.size (by rw [sz]; simp only [List.mem_cons, List.not_mem_nil, or_false, not_or]; exact ⟨Nat.ne_of_lt (Nat.lt_succ_self _), Nat.ne_of_gt lS⟩) ns hz hn vals (vs.size - 0) 0 _ (by omega) (Nat.zero_le _) ⟨⟨_, Heap.get?_push_size _ rfl, rfl, rfl⟩, il.push _⟩ ⟨0, Nat.le_refl 0, setR_new_at (Heap.get?_push_of_some _ gS)⟩ fun s' c m hc R => ?_
      rw [hz] at hc
      exact wpAny_pure (wpAny_pure ⟨rfl, fill_end sz m hc R⟩)
    · match r2, z2 with
      | .error e, z2 => exact z2
      | .ok (.ret v), ⟨e1, h2, tk, c, e2, R, hc, kp⟩ =>
        subst e1 e2
        repeat (any_goals (first | assumption | wp_step))
        exact k _ _ _ R hc kp
end
end L2
namespace L2
open PySem PySem.Spec PyProof.Rows
section
variable {X : Cx}
def rSetOL (K : PySem.W.Frag) (w : World) : List V → Hp → VK → Prop := fun vs H Q => ∃ (a : Addr) (ns : List Int), vs = [V.ref a] ∧ SqL K H a (ns.map V.int) ∧ ns.length < 64 ∧ ∀ (p : Addr) (c : Nat), H p = none → c ≤ ns.length → Q (.ref p) (upd H p (SetO w p (fun j => decide (j ∈ ns)) c))
theorem cr_setOL (hc : X.calm = true) : CallR X (.type "set") (rSetOL X.K X.w) := by
  intro pins s σ H vs us Q I r h
  obtain ⟨a, ns, rfl, hs, hn, q⟩ := h
  obtain ⟨its, rv, hl, hz⟩ := I.list hs
  rw [Vals.ref1 r]
  refine set_of_list ns (I.ok.hd hc) hl.isList (ints_of_vals rv) (by unfold scanBound; omega) fun h2 tk c R hcn kp => ?_
  exact ⟨.ref _, upd H s.heap.objs.size (SetO X.w s.heap.objs.size (fun j => decide (j ∈ ns)) c), I.laid kp (Nat.le_refl _) (setO_new R), rfl, q _ c (I.hok.fresh (Nat.le_refl _)) hcn⟩
end
end L2
namespace DL
open PySem PySem.Spec PyProof.Rows L2
/-- the members, rising, each once -/
def insU (x : Int) : List Int → List Int
  | [] => [x]
  | y :: l => if x < y then x :: y :: l else if x = y then y :: l else y :: insU x l
def sortU : List Int → List Int
  | [] => []
  | x :: l => insU x (sortU l)
theorem mem_insU {x k : Int} : ∀ {l : List Int}, k ∈ insU x l ↔ k = x ∨ k ∈ l
  | [] => by simp [insU]
  | y :: l => by
    unfold insU
    split
    · simp
    · split
      · rename_i h; subst h; simp
      · rw [List.mem_cons, mem_insU, List.mem_cons]
        constructor
        · rintro (h | h | h)
          · exact .inr (.inl h)
          · exact .inl h
          · exact .inr (.inr h)
        · rintro (h | h | h)
          · exact .inr (.inl h)
          · exact .inl h
          · exact .inr (.inr h)
theorem mem_sortU {k : Int} : ∀ {l : List Int}, k ∈ sortU l ↔ k ∈ l
  | [] => by simp [sortU]
  | x :: l => by
    unfold sortU
    rw [mem_insU, mem_sortU, List.mem_cons]
theorem insU_up {x : Int} : ∀ {l : List Int}, l.Pairwise (· < ·) → (insU x l).Pairwise (· < ·)
  | [], _ => by simp [insU]
  | y :: l, h => by
    obtain ⟨h1, h2⟩ := List.pairwise_cons.mp h
    unfold insU
    split
    · rename_i hx
      exact List.pairwise_cons.mpr ⟨fun z hz => by
        rcases List.mem_cons.mp hz with e | e
        · rw [e]; exact hx
        · exact Int.lt_trans hx (h1 z e), h⟩
    · split
      · exact h
      · refine List.pairwise_cons.mpr ⟨fun z hz => ?_, insU_up h2⟩
        rcases mem_insU.mp hz with e | e
        · rw [e]; omega
        · exact h1 z e
theorem sortU_up : ∀ l : List Int, (sortU l).Pairwise (· < ·)
  | [] => List.Pairwise.nil
  | x :: l => insU_up (sortU_up l)
/-- rising lists of the same members are the same -/
theorem up_ext : ∀ {l m : List Int}, l.Pairwise (· < ·) → m.Pairwise (· < ·) → (∀ k, k ∈ l ↔ k ∈ m) → l = m
  | [], [], _, _, _ => rfl
  | [], y :: m, _, _, h => by have := (h y).mpr List.mem_cons_self; cases this
  | x :: l, [], _, _, h => by have := (h x).mp List.mem_cons_self; cases this
  | x :: l, y :: m, h1, h2, h => by
    obtain ⟨a1, a2⟩ := List.pairwise_cons.mp h1
    obtain ⟨b1, b2⟩ := List.pairwise_cons.mp h2
    have e : x = y := by
      rcases List.mem_cons.mp ((h x).mp List.mem_cons_self) with e | e
      · exact e
      · rcases List.mem_cons.mp ((h y).mpr List.mem_cons_self) with e' | e'
        · exact e'.symm
        · have := b1 x e; have := a1 y e'; omega
    subst e
    congr 1
    refine up_ext a2 b2 fun k => ⟨fun hk => ?_, fun hk => ?_⟩
    · rcases List.mem_cons.mp ((h k).mp (List.mem_cons_of_mem _ hk)) with e | e
      · have := a1 k hk; omega
      · exact e
    · rcases List.mem_cons.mp ((h k).mpr (List.mem_cons_of_mem _ hk)) with e | e
      · have := b1 k hk; omega
      · exact e
def sortedSetD : List PyData → Option AV
  | [.list l] => (intsD l).bind fun ns => if ns.length < 64 then some (dn (.list ((sortU ns).map .int))) else none
  | _ => none
section
variable {X : Cx} {W : WX} {e : Expr} {gs : AL} {pos p p2 q : Pos}
theorem de_sortedSet (hc : X.calm = true) (hg : Gl X "sorted") (hm : X.mg "sorted" = none) (hg2 : Gl X "set") (hm2 : X.mg "set" = none) (ha : DAr X W [e] gs) (he : starEach [e] X.env = (false, eval e X.env) :: starEach [] X.env := by rfl)
    (he2 : starEach [.Call (.Name "set" p2) [e] [] q] X.env = (false, eval (.Call (.Name "set" p2) [e] [] q) X.env) :: starEach [] X.env := by rfl) : DE X W (.Call (.Name "sorted" p) [.Call (.Name "set" p2) [e] [] q] [] pos) (eCall sortedSetD gs) :=
  pe_mono (pe_callB (cr_sortedSet hc) hg hm boot_sorted (pa_cons (pe_callTy (cr_setOL hc) hg2 hm2 PyProof.Rows.boot_set ha (by decide) (by decide) he) pa_nil he2) (by decide) (by decide) he2) fun σ H Q ⟨c, σa, Z, z⟩ => ⟨c, σa, Z, (Go.bind z).mono fun ds z vs H1 k1 r1 => by
    obtain ⟨av, ev, z⟩ := go_of z
    unfold sortedSetD at ev
    split at ev
    · rename_i l
      cases en : intsD l with
      | none => rw [en] at ev; cases ev
      | some ns =>
        rw [en] at ev
        by_cases h64 : ns.length < 64
        · have ev : some (dn (.list ((sortU ns).map .int))) = some av := by
            have e0 : (if ns.length < 64 then some (dn (.list ((sortU ns).map .int))) else none) = some av := ev
            rw [if_pos h64] at e0
            exact e0
          cases ev
          obtain ⟨v, rfl, hb⟩ := brA1 r1
          rw [intsD_eq en] at hb
          obtain ⟨a, xs, rfl, r, f⟩ := br_lst hb
          rw [fz_ints f] at r
          refine ⟨a, ns, rfl, .inl (.inl r), h64, fun p' cn hp hcn => ?_⟩
          refine ⟨p', _, cn, rfl, upd_same, by omega, fun ms p3 m1 m2 m3 hp3 => ?_⟩
          have em : ms = sortU ns := up_ext m1 (sortU_up ns) fun k => by rw [m2 k, mem_sortU, decide_eq_true_eq]
          rw [em]
          have k2 : Kp c.tabs H1 (upd H1 p' (SetO X.w p' (fun j => decide (j ∈ ns)) cn)) := Kp.new (Z.kp k1).tab hp
          exact fin_lst ((Z.kp k1).kp k2) (fun v' H' k3 r3 => z v' H' ((k1.trans k2).trans k3) (r3.base (k1.trans k2).k)) (FzA.ints _ _ _) p3 hp3
        · have e0 : (if ns.length < 64 then some (dn (.list ((sortU ns).map .int))) else none) = some av := ev
          exact absurd e0 (by rw [if_neg h64]; intro z; cases z)
    · cases ev⟩
end
end DL
namespace DL
open PySem PySem.Spec PyProof.Rows L2
/-- as tI, for a loop within which only old objects are written -/
def tJ (K : Fr) (W : WX) (g : AE → Rs (List PyData)) : TI := fun σ H R => ∃ c σa, Rst K c H σa σ ∧ Go K W c σ H (g σa) fun ds => ∀ J H', Kp c.tabs H H' → Yl K (Pr c σa σ) c.old c.tabs H' J ds → R J H'
abbrev DJ (X : Cx) (W : WX) (tg it : Expr) (g : AE → Rs (List PyData)) : Prop := PI X tg it (tJ X.K W g)
def iJq (f : AE → Rs AV) : AE → Rs (List PyData) := fun s => (fz f s).bind itemsA
@[simp] theorem iJq_eq (f : AE → Rs AV) (s : AE) : iJq f s = (fz f s).bind itemsA := rfl
section
variable {X : Cx} {W : WX} {e a b tg : Expr} {f : AE → Rs AV} {g h : AE → Rs PyData} {pos p : Pos}
theorem old_pr {c : RC} {σa : AE} {σ : L2.St} : ∀ a, c.old a → Pr c σa σ a := fun _ z => .inr z
theorem dj_seq (he : DE X W e f) : DJ X W tg e (iJq f) := pi_mono (pi_or (pi_or (pi_list (de_fz he)) (pi_tup (de_fz he))) (pi_str (de_fz he))) fun σ H R ⟨c, σa, Z, q⟩ => by
  have q : Go X.K W c σ H ((fz f σa).bind itemsA) _ := q
  cases ef : fz f σa with
  | st => rw [ef] at q; exact q.elim
  | ex x => rw [ef] at q; exact .inl (.inl ⟨c, σa, Z, by rw [ef]; exact q⟩)
  | ok d =>
    rw [ef] at q
    cases d with
    | list l =>
      refine .inl (.inl ⟨c, σa, Z, ?_⟩)
      rw [ef]
      intro v H1 k1 r1
      have r1 : Fz _ _ _ _ _ := r1
      cases r1 with
      | lst s n f1 => exact ⟨_, rfl, ⟨_, .inl (.inl s)⟩, q _ H1 k1 (yl_lst s f1 old_pr fun z => n (.inr z))⟩
    | tuple l =>
      refine .inl (.inr ⟨c, σa, Z, ?_⟩)
      rw [ef]
      intro v H1 k1 r1
      have r1 : Fz _ _ _ _ _ := r1
      cases r1 with
      | tup s f1 => exact ⟨_, rfl, ⟨_, s⟩, q _ H1 k1 (yl_tup s f1 old_pr)⟩
    | str x =>
      refine .inr ⟨c, σa, Z, ?_⟩
      rw [ef]
      intro v H1 k1 r1
      have r1 : Fz _ _ _ _ _ := r1
      cases r1 with
      | str _ h1 _ => exact ⟨x, rfl, q _ H1 k1 (yl_str h1)⟩
    | _ => exact (show False from q).elim
theorem dj_rg1 (hg : Gl X "range") (hm : X.mg "range" = none) (ha : DR X W a g) (hs : starEach [a] X.env = [(false, eval a X.env)] := by rfl) : DJ X W tg (.Call (.Name "range" p) [a] [] pos) (iRg1 g) := pi_mono (pi_range1 hg hm (pa_cons ha pa_nil hs) hs) fun σ H R ⟨c, σa, Z, q⟩ => ⟨c, σa, Z, (Go.bind q).mono fun d q v H1 k1 r1 => by
  split at q
  · rename_i n
    split at q
    · rename_i hn
      cases br_int r1
      obtain ⟨h1, h2, h3, h4⟩ := hn.lt
      refine ⟨n, rfl, by omega, by omega, q _ H1 k1 ?_⟩
      have e : rgD 0 n = (List.range n.toNat).map fun k => PyData.int ((0 : Int) + (k : Nat)) := by unfold rgD; rw [Int.sub_zero]
      rw [e]
      exact yl_rg
    · exact q.elim
  · exact q.elim⟩
theorem dj_rg2 (hg : Gl X "range") (hm : X.mg "range" = none) (ha : DR X W a g) (hb : DR X W b h) (hs : starEach [a, b] X.env = [(false, eval a X.env), (false, eval b X.env)] := by rfl) (hs2 : starEach [b] X.env = [(false, eval b X.env)] := by rfl) : DJ X W tg (.Call (.Name "range" p) [a, b] [] pos) (iRg2 g h) :=
  pi_mono (pi_range2 hg hm (pa_cons ha (pa_cons hb pa_nil hs2) (by rw [hs, hs2])) hs hs2) fun σ H R ⟨c, σa, Z, q⟩ => ⟨c, σa, Z, (Go.bind q).mono fun d q v H1 k1 r1 => ⟨c, σa, Z.kp k1, ((Go.bind q).later k1).mono fun e q w H2 k2 r2 => by
  obtain ⟨n, m, rfl, rfl, hn, q⟩ := rg2_ok q
  cases br_int r1; cases br_int r2
  obtain ⟨h1, h2, h3, h4⟩ := hn.lt
  exact ⟨n, m, rfl, ⟨by omega, by omega, by omega, by omega⟩, q _ H2 (k1.trans k2) yl_rg⟩⟩⟩
end
/-- slots that hold data, or nothing -/
def isVU (s : AE) (i : Nat) : Bool := match s[i]? with
  | some .un => true
  | some (.v _) => true
  | _ => false
/-- as c, from H1 on -/
def cAt (c : RC) (H1 : Hp) (σa : AE) (σ : L2.St) : RC := ⟨H1, Mu σa σ, c.pins, c.tabs, c.old⟩
section
variable {K : Fr} {c : RC} {H H1 : Hp} {σa : AE} {σ : L2.St}
/-- an old object was written, none else -/
theorem rst_at {p : Addr} (Z : Rst K c H σa σ) (k : Keep (fun a => a = p) H H1) (kt : ∀ t ∈ c.tabs, TabC H1 t) (hp : c.old p) (hb : ∀ (i : Nat) (d : PyData) (a : Addr), σa[i]? = some (AS.b d) → σ[i]? = some (some (.ref a)) → a ≠ p)
    (ho : ∀ (i : Nat) (q : Kd) (d : PyData) (a : Addr), σa[i]? = some (AS.o q d) → σ[i]? = some (some (.ref a)) → a ≠ p) : Rst K (cAt c H1 σa σ) H1 σa σ := by
  have kk : Keep (Pr c σa σ) H H1 := k.imp fun a e => by subst e; exact .inr hp
  have sub : ∀ a, Pr (cAt c H1 σa σ) σa σ a → Pr c σa σ a ∨ H a = none := fun a z => .inl z
  refine ⟨Z.len, fun j d e => ?_, fun j d e => ?_, fun j k' d e => ?_, Z.inj, Keep.refl _ _, fun a z => .inl z, Z.pin, Z.lnp, kt, fun a z => k.thr a (Z.keep.thr a (Z.oldT a z)), Z.tabE, fun a z y => Z.noOld z y⟩
  · obtain ⟨u, h1, h2⟩ := Z.val j d e
    exact ⟨u, h1, h2.mono kk sub⟩
  · obtain ⟨a, h1, h2, o, r, co⟩ := Z.bor j d e
    exact ⟨a, h1, h2, o, r.keep k (hb j d a e h1) co.noTbl, co.mono kk sub⟩
  · obtain ⟨a, h1, q⟩ := Z.own j k' d e
    refine ⟨a, h1, ?_⟩
    have na := ho j k' d a e h1
    cases k' with
    | ln =>
      obtain ⟨o, r, co⟩ := (show Cr _ _ _ _ _ from q)
      exact ⟨o, r.keep k na co.noTbl, co.mono kk sub⟩
    | ow =>
      obtain ⟨o, r, co⟩ := (show Own _ _ _ _ _ from q)
      exact ⟨o, k.oth a o r na co.noTbl, co.mono kk sub⟩
    | io =>
      obtain ⟨o, r, co⟩ := (show Own _ _ _ _ _ from q)
      exact ⟨o, k.oth a o r na co.noTbl, co.mono kk sub⟩
end
/-- the items of a comprehension of two clauses: s the block's state -/
def compL2 (vs vs1 : List Nat) (t : TgM) (tt : AE → Rs Bool) (it1 : AE → Rs (List PyData)) (t1 : TgM) (tt1 : AE → Rs Bool) (te : AE → Rs PyData) (s : AE) : List PyData → Rs (List PyData)
  | [] => .ok []
  | d :: ds => match t d s with
    | none => .st
    | some s1 => (nox (tt s1)).bind fun b => if b = true then (if vs.all (isVU s1) = true ∧ vs1.all (free1 s1) = true then (nox (it1 s1)).bind fun es => (nox (compL t1 tt1 te (wipeA s1 vs1) es)).bind fun l1 => (compL2 vs vs1 t tt it1 t1 tt1 te s ds).bind fun l => .ok (l1 ++ l) else .st)
      else compL2 vs vs1 t tt it1 t1 tt1 te s ds
def eLc2 (it : AE → Rs (List PyData)) (vs : List Nat) (t : TgM) (tt : AE → Rs Bool) (it1 : AE → Rs (List PyData)) (vs1 : List Nat) (t1 : TgM) (tt1 : AE → Rs Bool) (te : AE → Rs PyData) : AE → Rs AV := fun s =>
  (it s).bind fun ds => if vs.all (free1 s) = true then (nox (compL2 vs vs1 t tt it1 t1 tt1 te (wipeA s vs) ds)).bind fun l => if lenOk l.length then .ok (dn (.list l)) else .st else .st
section
variable {K : Fr} {W : WX} {it it1 : AE → Rs (List PyData)} {ls vs vs1 ts ts1 : List Nat} {t t1 : TgM} {tt tt1 : AE → Rs Bool} {te : AE → Rs PyData}
theorem compL2_cons {s : AE} {d : PyData} {ds l : List PyData} (h : compL2 vs vs1 t tt it1 t1 tt1 te s (d :: ds) = .ok l) : ∃ s1 b, t d s = some s1 ∧ tt s1 = .ok b ∧
    ((b = true ∧ vs.all (isVU s1) = true ∧ vs1.all (free1 s1) = true ∧ ∃ es l1 r, it1 s1 = .ok es ∧ compL t1 tt1 te (wipeA s1 vs1) es = .ok l1 ∧ compL2 vs vs1 t tt it1 t1 tt1 te s ds = .ok r ∧ l = l1 ++ r) ∨ (b = false ∧ compL2 vs vs1 t tt it1 t1 tt1 te s ds = .ok l)) := by
  unfold compL2 at h
  cases e : t d s with
  | none => rw [e] at h; cases h
  | some s1 =>
    rw [e] at h
    obtain ⟨b, h1, h2⟩ := bind_ok h
    refine ⟨s1, b, rfl, nox_ok h1, ?_⟩
    cases b with
    | true =>
      rw [if_pos rfl] at h2
      by_cases hc : vs.all (isVU s1) = true ∧ vs1.all (free1 s1) = true
      · rw [if_pos hc] at h2
        obtain ⟨es, h3, h4⟩ := bind_ok h2
        obtain ⟨l1, h5, h6⟩ := bind_ok h4
        obtain ⟨r, h7, h8⟩ := bind_ok h6
        cases h8
        exact .inl ⟨rfl, hc.1, hc.2, es, l1, r, nox_ok h3, nox_ok h5, h7, rfl⟩
      · rw [if_neg hc] at h2; cases h2
    | false => exact .inr ⟨rfl, h2⟩
end
end DL
namespace DL
open PySem PySem.Spec PyProof.Rows L2
section
variable {K : Fr} {W : WX} {it it1 : AE → Rs (List PyData)} {ls vs vs1 ts ts1 : List Nat} {t t1 : TgM} {tt tt1 : AE → Rs Bool} {te : AE → Rs PyData}
/-- roots stand through a block's target -/
theorem rt_thru {σa s1 : AE} {σ σ' : L2.St} {d : PyData} (hok : TgOk t ts) (hs : ∀ i ∈ ts, i ∈ vs) (hfr : ∀ i ∈ vs, free1 σa i = true) (e1 : t d (wipeA σa vs) = some s1) (same : Same ts (wipe σ vs) σ') {a : Addr} (h : Rt σa σ a) : Rt s1 σ' a := by
  obtain ⟨j, k, d, h1, h2⟩ := (rt_wipe hfr).mpr h
  have hj : j ∉ ts := fun z => by
    rcases wipeA_get h1 with z' | ⟨hj, _⟩
    · cases z'
    · exact hj (hs j z)
  exact ⟨j, k, d, by rw [hok _ _ _ e1 j hj]; exact h1, by rw [same.at_ j hj]; exact h2⟩
/-- a slot that is no data of the block's stands as before -/
theorem slot_thru {σa s1 : AE} {σ σ' : L2.St} {d : PyData} (hok : TgOk t ts) (hs : ∀ i ∈ ts, i ∈ vs) (e1 : t d (wipeA σa vs) = some s1) (same : Same ts (wipe σ vs) σ') (hv : vs.all (isVU s1) = true) {i : Nat} {x : AS} (h : s1[i]? = some x) (hx : x ≠ .un ∧ ∀ d, x ≠ .v d) : σa[i]? = some x ∧ σ'[i]? = σ[i]? := by
  have hi : i ∉ vs := fun z => by
    have := List.all_eq_true.mp hv i z
    unfold isVU at this
    rw [h] at this
    cases x with
    | un => exact hx.1 rfl
    | v d => exact hx.2 d rfl
    | b d => cases this
    | o k d => cases this
  have ht : i ∉ ts := fun z => hi (hs i z)
  exact ⟨by rw [hok _ _ _ e1 i ht, wipeA_ne hi] at h; exact h, by rw [same.at_ i ht, wipe_ne hi]⟩
theorem t_lc2 (hok : TgOk t ts) (hs : ∀ i ∈ ts, i ∈ vs) (hok1 : TgOk t1 ts1) (hs1 : ∀ i ∈ ts1, i ∈ vs1) {σ : L2.St} {H : Hp} {Q : VK} (h : tD K W (eLc2 it vs t tt it1 vs1 t1 tt1 te) σ H Q) :
    tLc2 (tI K W it ls) (gD K t ts) (tTs K W0 tt) (tJ K W0 it1) (gD K t1 ts1) (tTs K W0 tt1) (tFz K W0 te) vs vs1 σ H Q := by
  obtain ⟨c, σa, Z, q⟩ := h
  refine ⟨c, σa, Z, (Go.bind q).mono fun ds q J H1 k1 y D hD => ?_⟩
  have Z1 := Z.kp k1
  have hfr : vs.all (free1 σa) = true := by
    by_cases hc : vs.all (free1 σa) = true
    · exact hc
    · rw [if_neg hc] at q; exact q.elim
  rw [if_pos hfr] at q
  have hfr : ∀ i ∈ vs, free1 σa i = true := fun i hi => List.all_eq_true.mp hfr i hi
  obtain ⟨l, el, hlen, q⟩ : ∃ l, compL2 vs vs1 t tt it1 t1 tt1 te (wipeA σa vs) ds = .ok l ∧ lenOk l.length ∧ ∀ v H', Kp c.tabs H H' → AvR K c σa σ H H' (dn (.list l)) v → Q v H' := by
    cases el : compL2 vs vs1 t tt it1 t1 tt1 te (wipeA σa vs) ds with
    | st => rw [el] at q; exact q.elim
    | ex e => rw [el] at q; exact q.elim
    | ok l =>
      rw [el] at q
      have q : Go K W c σ H (if lenOk l.length then .ok (dn (.list l)) else .st : Rs AV) _ := q
      by_cases hl : lenOk l.length
      · rw [if_pos hl] at q; exact ⟨l, rfl, hl, q⟩
      · rw [if_neg hl] at q; exact q.elim
  have short : ∀ {acc : List V} {accd r : List PyData} {P : Pd} {H' : Hp}, FzA K P H' acc accd → accd ++ r = l → acc.length < sizeLine := fun {acc accd r P H'} f e => by
    have := f.length
    have : (accd ++ r).length = l.length := by rw [e]
    rw [List.length_append] at this
    exact Nat.lt_of_le_of_lt (by omega : acc.length ≤ l.length) hlen.lt
  let Wo : Nat → Nat → Hp → Prop := fun i m H2 => m = ds.length - i ∧ i ≤ ds.length ∧ ∃ acc accd rest, Kp c.tabs H1 H2 ∧ H2 D = some (.lst acc) ∧ FzA K (fun a => Pr c σa σ a ∨ a = D) H2 acc accd ∧ compL2 vs vs1 t tt it1 t1 tt1 te (wipeA σa vs) (ds.drop i) = .ok rest ∧ accd ++ rest = l
  refine ⟨Wo, ⟨ds.length, rfl, Nat.zero_le _, [], [], l, Kp.new Z1.tab hD, upd_same, .nil, by rw [List.drop_zero]; exact el, rfl⟩, ?_⟩
  rintro i m H2 ⟨rfl, hi, acc, accd, rest, kk, eD, fz, ec, ea⟩
  obtain ⟨yg, ys⟩ := y i H2 (kk.k.imp fun _ z => z.elim) kk.t
  by_cases hil : i < ds.length
  · right
    have e := List.getElem?_eq_getElem hil
    obtain ⟨go, st⟩ := yg _ e
    rw [List.drop_eq_getElem_cons hil] at ec
    obtain ⟨s1, b, e1, e2, e3⟩ := compL2_cons ec
    refine ⟨go, fun H' => Wo (i + 1) (ds.length - (i + 1)) H', fun H' n => ⟨ds.length - (i + 1), by omega, n⟩, fun x H3 z => ?_⟩
    obtain ⟨k3, f3⟩ := st x H3 z
    have kD : ∀ {H' : Hp}, Kp c.tabs H2 H' → H' D = some (.lst acc) := fun {H'} k => k.k.oth D _ eD (fun z => z) fun ps z => by cases z
    have Z3 : Rst K (cOld c H3 σa σ D) H3 σa σ := rst_old Z1 (kk.trans k3) hD (by rw [kD k3]; intro z; cases z)
    have Zw := rst_wipe Z3 hfr
    refine ⟨cOld c H3 σa σ D, wipeA σa vs, _, Zw, f3 _ (fun a z => ?_), s1, e1, fun σ' Z' sub same => ⟨wipe_same same hs, ?_⟩⟩
    · rcases z with z | z | z
      · exact .inl (.inl ((rt_wipe hfr).mp z))
      · exact .inl (.inr z)
      · exact .inr (z ▸ hD)
    have rtS : ∀ a, Rt σa σ a → Rt s1 σ' a := fun a h => rt_thru hok hs hfr e1 same h
    refine ⟨cOld c H3 σa σ D, s1, Z', ?_⟩
    rw [e2]
    intro H4 k4
    have k4 : Kp c.tabs H3 H4 := k4
    rcases e3 with ⟨rfl, hvu, hf1, es, l1, r, e3, e4, e5, rfl⟩ | ⟨rfl, e3⟩
    · rw [if_pos rfl]
      have hf1 : ∀ i ∈ vs1, free1 s1 i = true := fun i hi => List.all_eq_true.mp hf1 i hi
      refine ⟨cOld c H3 σa σ D, s1, Z'.kp k4, ?_⟩
      rw [e3]
      intro J1 H5 k5 y1
      have k5 : Kp c.tabs H4 H5 := k5
      have k25 : Kp c.tabs H2 H5 := (k3.trans k4).trans k5
      have ZI : Rst K (cOld c H3 σa σ D) H5 s1 σ' := (Z'.kp k4).kp k5
      -- slots that lean on roots stand apart of D
      have apart : ∀ (i : Nat) (x : AS) (a : Addr), s1[i]? = some x → (x ≠ .un ∧ ∀ d, x ≠ .v d) → σ'[i]? = some (some (.ref a)) → a ≠ D := fun i x a h1 hx h2 => by
        obtain ⟨g1, g2⟩ := slot_thru hok hs e1 same hvu h1 hx
        rw [g2] at h2
        have there : H1 a ≠ none := by
          cases x with
          | un => exact absurd rfl hx.1
          | v d => exact absurd rfl (hx.2 d)
          | b d =>
            obtain ⟨a', b1, _, b3⟩ := Z1.bor i d g1
            rw [h2] at b1; cases b1
            exact b3.there
          | o k d => exact Z1.rt ⟨i, k, d, g1, h2⟩
        intro z
        exact there (z ▸ hD)
      let Wi : Nat → Nat → Hp → Prop := fun j k H' => k = es.length - j ∧ j ≤ es.length ∧ ∃ acc accd rest1, Keep (fun a => a = D) H5 H' ∧ Kp c.tabs H1 H' ∧ H' D = some (.lst acc) ∧ FzA K (fun a => Pr c σa σ a ∨ a = D) H' acc accd ∧ compL t1 tt1 te (wipeA s1 vs1) (es.drop j) = .ok rest1 ∧ accd ++ (rest1 ++ r) = l
      refine ⟨Wi, ⟨es.length, rfl, Nat.zero_le _, acc, accd, l1, Keep.refl _ _, kk.trans k25, kD k25, fz.keep0 k25.k, by rw [List.drop_zero]; exact e4, ea⟩, ?_⟩
      rintro j k H' ⟨rfl, hj, acc', accd', rest1, kd, k1', eD', fz', ec', ea'⟩
      obtain ⟨yg1, ys1⟩ := y1 j H' (kd.imp fun a e => .inr e) k1'.t
      by_cases hjl : j < es.length
      · right
        have e' := List.getElem?_eq_getElem hjl
        obtain ⟨go1, st1⟩ := yg1 _ e'
        rw [List.drop_eq_getElem_cons hjl] at ec'
        obtain ⟨s3, b1, q1, q2, q3⟩ := compL_cons ec'
        refine ⟨go1, fun H' => Wi (j + 1) (es.length - (j + 1)) H', fun H' n => ⟨es.length - (j + 1), by omega, n⟩, fun x1 H6 z1 => ?_⟩
        obtain ⟨k6, f6⟩ := st1 x1 H6 z1
        have k6 : Kp c.tabs H' H6 := k6
        have ZA := rst_at ZI kd k1'.t (.inr rfl) (fun i d a h1 h2 => apart i _ a h1 ⟨(by intro z; cases z), fun _ z => by cases z⟩ h2) fun i q d a h1 h2 => apart i _ a h1 ⟨(by intro z; cases z), fun _ z => by cases z⟩ h2
        have ZB := ZA.kp k6
        have Zw1 := rst_wipe ZB hf1
        refine ⟨_, wipeA s1 vs1, _, Zw1, f6 _ (fun a z => ?_), s3, q1, fun σ3 Z3' sub1 same1 => ⟨wipe_same same1 hs1, ?_⟩⟩
        · rcases z with z | z
          · exact .inl (.inl ((rt_wipe hf1).mp z))
          · exact .inl (.inr z)
        have rtS1 : ∀ a, Rt s1 σ' a → Rt s3 σ3 a := fun a h => rt_thru hok1 hs1 hf1 q1 same1 h
        refine ⟨_, s3, Z3', ?_⟩
        rw [q2]
        intro H7 k7
        have k7 : Kp c.tabs H6 H7 := k7
        have kDn : ∀ {Hn : Hp}, Kp c.tabs H' Hn → Hn D = some (.lst acc') := fun {Hn} k => k.k.oth D _ eD' (fun z => z) fun ps z => by cases z
        rcases q3 with ⟨rfl, dx, r1, q3, q4, rfl⟩ | ⟨rfl, q3⟩
        · rw [if_pos rfl]
          refine ⟨_, s3, Z3'.kp k7, ?_⟩
          rw [q3]
          intro yv H8 k8 fy
          have k8 : Kp c.tabs H7 H8 := k8
          have k68 : Kp c.tabs H' H8 := (k6.trans k7).trans k8
          have eD8 := kDn k68
          have kset : Keep (fun a => a = D) H8 (upd H8 D (.lst (acc' ++ [yv]))) := Keep.set rfl fun zs z => by
            rcases z with z | ⟨ob, z⟩ <;> rw [eD8] at z <;> cases z
          refine ⟨acc', eD8, short fz' ea', rfl, hjl, acc' ++ [yv], accd' ++ [dx], r1, (kd.tr0 k68.k).trans kset fun a e => .inl e, kp_set (k1'.trans k68) hD eD8, upd_same, ?_, q4, by rw [← ea']; simp⟩
          refine ((fz'.keep0 k68.k).append (.cons (fy.anti fun a z => ?_) .nil)).mono (kset.imp fun a e => .inr e) fun a z => .inl z
          rcases z with (z | z) | z
          · exact .inl (rtS1 a (rtS a z))
          · exact .inr (.inl z)
          · exact .inr (.inr z)
        · rw [if_neg Bool.false_ne_true]
          have k67 : Kp c.tabs H' H7 := k6.trans k7
          exact ⟨rfl, hjl, acc', accd', rest1, kd.tr0 k67.k, k1'.trans k67, kDn k67, fz'.keep0 k67.k, q3, ea'⟩
      · left
        have e' : j = es.length := by omega
        subst e'
        rw [List.drop_length] at ec'
        cases ec'
        exact ⟨ys1 (Nat.le_refl _), rfl, hil, acc', accd', r, k1', eD', fz', e5, ea'⟩
    · rw [if_neg Bool.false_ne_true]
      have k24 : Kp c.tabs H2 H4 := k3.trans k4
      exact ⟨rfl, hil, acc, accd, rest, kk.trans k24, kD k24, fz.keep0 k24.k, e3, ea⟩
  · left
    have e : i = ds.length := by omega
    subst e
    rw [List.drop_length] at ec
    cases ec
    rw [List.append_nil] at ea
    subst ea
    exact ⟨ys (Nat.le_refl _), q (.ref D) H2 (k1.trans kk) ⟨D, rfl, k1.k.fresh hD, _, eD, .lst fz⟩⟩
end
section
variable {X : Cx} {W : WX} {elt tg iter tg1 iter1 : Expr} {ifs ifs1 : List Expr} {scope : Scope} {own : List (Str × Nat)} {pos : Pos} {it it1 : AE → Rs (List PyData)} {ls ts ts1 vs1 : List Nat} {t t1 : TgM} {tt tt1 : AE → Rs Bool} {te : AE → Rs PyData}
theorem de_lc2 (hc : X.calm = true) (hN : X.N.Nodup) (hi : DI X W tg iter it ls) (ok : blkC X.N X.env.scope scope own = true)
    (hg : ∀ (s : Shared) (H : Hp) (C : Addr) (cl : List (Str × Addr)) (fp : List Addr), DG (X.blk s H scope (compEnvC scope cl C X.env) fp) tg t ts)
    (ht : ∀ (s : Shared) (H : Hp) (C : Addr) (cl : List (Str × Addr)) (fp : List Addr), DTs (X.blk s H scope (compEnvC scope cl C X.env) fp) W0 ifs tt)
    (hi1 : ∀ (s : Shared) (H : Hp) (C : Addr) (cl : List (Str × Addr)) (fp : List Addr), DJ (X.blk s H scope (compEnvC scope cl C X.env) fp) W0 tg1 iter1 it1)
    (hg1 : ∀ (s : Shared) (H : Hp) (C : Addr) (cl : List (Str × Addr)) (fp : List Addr), DG (X.blk s H scope (compEnvC scope cl C X.env) fp) tg1 t1 ts1)
    (ht1 : ∀ (s : Shared) (H : Hp) (C : Addr) (cl : List (Str × Addr)) (fp : List Addr), DTs (X.blk s H scope (compEnvC scope cl C X.env) fp) W0 ifs1 tt1)
    (he : ∀ (s : Shared) (H : Hp) (C : Addr) (cl : List (Str × Addr)) (fp : List Addr), DF (X.blk s H scope (compEnvC scope cl C X.env) fp) W0 elt te)
    (hv : ∀ i ∈ vs1, i ∈ own.map (·.2) := by decide) (hsub : ∀ i ∈ ts, i ∈ own.map (·.2) := by decide) (hsub1 : ∀ i ∈ ts1, i ∈ vs1 := by decide) (hs : ∀ x, foldedSetIterable iter X.env x = pure x := by intro _; rfl) (hs1 : ∀ env x, foldedSetIterable iter1 env x = pure x := by intro _ _; rfl) :
    DE X W (.ListComp elt [⟨tg, iter, ifs, 0⟩, ⟨tg1, iter1, ifs1, 0⟩] scope pos) (eLc2 it (own.map (·.2)) t tt it1 vs1 t1 tt1 te) := ⟨fun pins s σ H Q I h =>
  (pe_lc2 hc hN hi (blkOk_by ok) hv (fun s H C cl fp => (hg s H C cl fp).pg) ht hi1 (fun s H C cl fp => (hg1 s H C cl fp).pg) ht1 he hs hs1).run pins s σ H Q I (t_lc2 (hg s H 0 [] []).ok hsub (hg1 s H 0 [] []).ok hsub1 h)⟩
end
end DL
namespace DL
open PySem PySem.Spec PyProof.Rows L2
section
variable {α : Type} {vs vs1 : List Nat} {t t1 : TgM} {tt tt1 : AE → Rs Bool} {it it1 : AE → Rs (List PyData)} {te : AE → Rs PyData} {s : AE} {emb : α → PyData} {f : α → List PyData}
theorem compL2_map : ∀ l : List α, (∀ a ∈ l, ∃ s1, t (emb a) s = some s1 ∧ tt s1 = .ok true ∧ vs.all (isVU s1) = true ∧ vs1.all (free1 s1) = true ∧ ∃ es, it1 s1 = .ok es ∧ compL t1 tt1 te (wipeA s1 vs1) es = .ok (f a)) → compL2 vs vs1 t tt it1 t1 tt1 te s (l.map emb) = .ok (l.flatMap f)
  | [], _ => rfl
  | a :: l, h => by
    obtain ⟨s1, h1, h2, h3, h4, es, h5, h6⟩ := h a List.mem_cons_self
    have ih := compL2_map l fun b hb => h b (List.mem_cons_of_mem _ hb)
    rw [List.map_cons, compL2, h1]
    show (nox (tt s1)).bind _ = _
    rw [h2]
    show (if vs.all (isVU s1) = true ∧ vs1.all (free1 s1) = true then _ else _) = _
    rw [if_pos ⟨h3, h4⟩, h5]
    show (nox (compL t1 tt1 te (wipeA s1 vs1) es)).bind _ = _
    rw [h6]
    show (compL2 vs vs1 t tt it1 t1 tt1 te s (l.map emb)).bind _ = _
    rw [ih]
    rfl
theorem eLc2_ok (l : List α) (hit : it s = .ok (l.map emb)) (hf : vs.all (free1 s) = true) (hl : lenOk (l.flatMap f).length) (h : ∀ a ∈ l, ∃ s1, t (emb a) (wipeA s vs) = some s1 ∧ tt s1 = .ok true ∧ vs.all (isVU s1) = true ∧ vs1.all (free1 s1) = true ∧ ∃ es, it1 s1 = .ok es ∧ compL t1 tt1 te (wipeA s1 vs1) es = .ok (f a)) :
    eLc2 it vs t tt it1 vs1 t1 tt1 te s = .ok (dn (.list (l.flatMap f))) := by
  unfold eLc2
  rw [hit]
  show (if _ then _ else _) = _
  rw [if_pos hf, compL2_map l h]
  show (if _ then _ else _) = _
  rw [if_pos hl]
end
theorem ordD_eq (x y : PyData) : ordD x y = !PySem.W.dataLt y x := rfl
theorem so2_ints (l : List Int) : so2 (l.map .int) = true := by
  unfold so2
  simp only [Bool.and_eq_true, Bool.or_eq_true, List.all_eq_true, List.mem_map, decide_eq_true_eq]
  refine ⟨⟨?_, .inr ?_⟩, ?_⟩
  · rintro _ ⟨p, _, rfl⟩ _ ⟨q, _, rfl⟩
    exact alike_int p q
  · rintro _ ⟨p, _, rfl⟩; rfl
  · rintro _ ⟨p, _, rfl⟩; simp [PyData.depth]
theorem so2_prs (l : List (Int × Int)) : so2 (l.map DL.prD) = true := by
  unfold so2
  simp only [Bool.and_eq_true, Bool.or_eq_true, List.all_eq_true, List.mem_map, decide_eq_true_eq]
  refine ⟨⟨?_, .inl ?_⟩, ?_⟩
  · rintro _ ⟨p, _, rfl⟩ _ ⟨q, _, rfl⟩
    exact alike_pr p q
  · rintro _ ⟨p, _, rfl⟩; rfl
  · rintro _ ⟨p, _, rfl⟩; simp [DL.prD, PyData.depth, PyData.depthAll]
/-- sorted by an image: mergeSort goes through an injective embedding -/
theorem sort_map {α : Type} (f : α → PyData) (le : α → α → Bool) (h : ∀ a b, ordD (f a) (f b) = le a b) (l : List α) : (l.map f).mergeSort ordD = (l.mergeSort le).map f := by
  symm
  apply List.map_mergeSort
  intro a _ b _
  exact (h a b).symm
theorem ordD_i (a b : Int) : ordD (.int a) (.int b) = decide (a ≤ b) := by
  rw [ordD_eq, dataLt_i]
  by_cases h : a ≤ b
  · simp [h]
  · simp [h]; omega
/-- sorted of distinct whole numbers -/
theorem sorted_ints {l : List Int} (hn : l.Nodup) : sortedAD [.list (l.map .int)] = some (dn (.list ((sortU l).map .int))) := by
  show (if so2 (l.map .int) = true then _ else _) = _
  rw [if_pos (so2_ints l), sort_map .int (fun a b => decide (a ≤ b)) ordD_i]
  congr 3
  have hs : (l.mergeSort fun a b => decide (a ≤ b)).Pairwise fun a b => decide (a ≤ b) = true := List.pairwise_mergeSort (fun a b c h1 h2 => by simp at *; omega) (fun a b => by simp; omega) l
  have hp : (l.mergeSort fun a b => decide (a ≤ b)).Perm l := List.mergeSort_perm ..
  have hu : (l.mergeSort fun a b => decide (a ≤ b)).Pairwise (· < ·) := by
    have hn2 : (l.mergeSort fun a b => decide (a ≤ b)).Nodup := hp.nodup_iff.mpr hn
    have := List.Pairwise.and hs hn2
    exact this.imp fun {a b} h => by
      obtain ⟨h1, h2⟩ := h
      simp at h1
      omega
  rw [up_ext hu (sortU_up l) fun k => by rw [hp.mem_iff, mem_sortU]]
/-- rgD told as whole numbers -/
theorem rg_int (lo : Int) (n : Nat) : rgD lo (lo + n) = ((List.range n).map fun k : Nat => lo + (k : Int)).map .int := by
  unfold rgD
  rw [show (lo + (n : Int) - lo).toNat = n by omega, List.map_map]
  rfl
end DL
namespace DL
open PySem PySem.Spec PyProof.Rows L2
/-- the scope of a lambda of one parameter, which stands in slot j -/
structure LmS (N : List Str) (sc scope : Scope) (a : Str) (j : Nat) : Prop where
  kind : scope.kind = .function
  co : scope.isCoroutine = false
  gen : scope.isGenerator = false
  nocell : ∀ y ∈ scope.names, y.2 ≠ .cell
  par : scope.names.lookup a = some NameKind.local
  free : ∀ y ∈ scope.names, y.2 = .free → sc.names.lookup y.1 = some .cell ∨ sc.names.lookup y.1 = some .free
  ix : N[j]? = some a
  loc : ∀ y ∈ scope.names, y.2 = .local → y.1 = a
def lmB (N : List Str) (sc scope : Scope) (a : Str) (j : Nat) : Bool := decide (scope.kind = .function) && !scope.isCoroutine && !scope.isGenerator && (scope.names.all fun y => !decide (y.2 = .cell)) && decide (scope.names.lookup a = some NameKind.local) &&
  (scope.names.all fun y => !decide (y.2 = .free) || decide (sc.names.lookup y.1 = some .cell) || decide (sc.names.lookup y.1 = some .free)) && decide (N[j]? = some a) && (scope.names.all fun y => !decide (y.2 = .local) || decide (y.1 = a))
theorem LmS.of {N : List Str} {sc scope : Scope} {a : Str} {j : Nat} (h : lmB N sc scope a j = true) : LmS N sc scope a j := by
  unfold lmB at h
  simp only [Bool.and_eq_true, Bool.or_eq_true, Bool.not_eq_true', decide_eq_true_eq, decide_eq_false_iff_not, List.all_eq_true] at h
  obtain ⟨⟨⟨⟨⟨⟨⟨h1, h2⟩, h3⟩, h4⟩, h5⟩, h6⟩, h7⟩, h8⟩ := h
  exact ⟨h1, h2, h3, h4, h5, fun y hy e => by
    rcases h6 y hy with (z | z) | z
    · exact absurd e z
    · exact .inl z
    · exact .inr z, h7, fun y hy e => by
    rcases h8 y hy with z | z
    · exact absurd e z
    · exact z⟩
/-- the frame of its call -/
abbrev lmV (X : Cx) (q : Str) (scope : Scope) (L f c' : Addr) : Env := PySem.W.envX q scope L f (.ref c') (cloFrom X.env.cells scope.names [])
abbrev lmObj (X : Cx) (params : Arguments) (body : Expr) (scope : Scope) (pm : Value) (c' : Addr) (ctv : Value) : Obj := PySem.W.kla_obj "<lambda>" (X.env.qual ++ "<lambda>") params body scope (cloFrom X.env.cells scope.names []) pm c' ctv
section
variable {prog : Program} {w : World} {A : Around} {R : Result → Shared → Prop} {s : Shared}
/-- a function's call, whatever its code object is called -/
theorem call_fnQ {a c' : Addr} {q : Str} {args : Args} {o : Obj} {fd : FuncData} {body : Expr} (hroom : A.depth < recursionLimit) (ho : s.heap.get? a = some o) (hd' : o.data = .func fd) (hco : fd.scope.isCoroutine = false) (hgen : fd.scope.isGenerator = false)
    (hbody : fd.body = .expr body) (hc : fd.code = .ref c') (hq : ∃ (oc : Obj) (vs : Array Value) (t : Tok), s.heap.get? c' = some oc ∧ oc.data = .fields vs ∧ vs[1]? = some (.str q t))
    (h : wpAny (model prog w) A.in1 (bindArgs fd args) (fun binds s₁ =>
      wpAny (model prog w) A.in1 (newFunctionEnv fd.scope fd.globals fd.closure binds (q ++ ".<locals>.") (some a) (.ref c') none fd.builtins)
        (fun env s₂ => s₂.heap.NoLimit ∧ codeAny (model prog w) A (.expr body env) R s₂) (fun e s' => R (.error e) s') s₁) (fun e s' => R (.error e) s') s) : codeAny (model prog w) A (.call (.ref a) args) R s := by
  refine codeAny_of_tree ?_
  show wpAny _ A.in1 (callAny (.ref a) args) _ _ s
  simp only [callAny]
  refine wpAny_bind (wpAny_load ho ?_)
  obtain ⟨oc, vs, t, hoc, hdc, hv⟩ := hq
  simp only [hd', callFunction, hco, hgen, hbody, hc]
  refine wpAny_bind (m := field (.ref c') 1) (wpAny_field hoc hdc hv (wpAny_bind (wpAny_pure ?_)))
  exact wpAny_bind (wpAny_mono h (fun binds s₁ h₁ => wpAny_bind (wpAny_mono h₁ (fun env s₂ h₂ => wpAny_bind (wpAny_enterFrame h₂.1 hroom
    (wpAny_pure (And.intro rfl h₂.2)))) fun _ _ h' => h')) fun _ _ h' => h')
end
section
variable {X : Cx} {pins : List (Addr × Obj)} {σ : L2.St} {H : Hp} {s : Shared}
/-- the lambda is made: its code object is new, or found in the table -/
theorem lm_make {c P : Addr} {params : Arguments} {body : Expr} {scope : Scope} {pos : Pos} {E : Value → Shared → Prop} {Q : Value → Shared → Prop} (I : Inv X pins σ H s) (TB : GxR.TabB X.base X.mg c P) (hcode : X.env.code = .ref c) (hT : TabC H P)
    (hdef : defaultsOf params X.env = ([], [])) (hfree : ∀ y ∈ scope.names, y.2 = .free → ∃ c, X.env.cells.lookup y.1 = some c)
    (h : ∀ (f c' : Addr) (q : Str) (pm ctv : Value) (H1 : Hp) (s' : Shared), Inv X pins σ H1 s' → Tabd P H H1 → (∀ b o, b ≠ P → s.heap.get? b = some o → s'.heap.get? b = some o) → s'.heap.get? f = some (lmObj X params body scope pm c' ctv) →
      FpOk X pins H1 f → H1 c' = some (LamX.CodeO c' q) → s.heap.objs.size ≤ f → Q (.ref f) s') : wpAny (model X.prog X.w) X.A (eval (.Lambda params body scope pos) X.env) Q E s := by
  obtain ⟨ps, hP, ht, ha⟩ := id hT
  refine PySem.W.kla_eval hdef ?_
  have bP : s.heap.BuiltinsAt X.mg P := TB.bm.keeps I.bk
  have hP' : s.heap.get? P = some { cls := .none, data := .fields ps } := I.hok P _ hP
  cases hc : codeAmong pos ps.toList with
  | none =>
    refine PySem.W.kla_makeFunction (mg := X.mg) (c := c) (P := P) (ps := ps) (closure_ok hfree) I.ok.glob (I.mod.glob.keeps I.bk) hcode (TB.code.keeps I.bk) hP' ht hc TB.gP bP fun c' ctv h' tk hx hge hlt hrec htb => ?_
    obtain ⟨c2, oc, vs, t, e2, hoc, hd, hv⟩ := hrec
    cases e2
    have hsz : s.heap.objs.size ≤ h'.objs.size := Nat.le_trans hge (Nat.le_of_lt hlt)
    have nC : H c' = none := I.hok.fresh hge
    have hm : h'.get? P = some { cls := .none, data := .fields (ps ++ #[rawInt pos.line, rawInt pos.col, .ref c']) } := htb
    have I0 := LamX.inv_table (t' := tk) (more := #[rawInt pos.line, rawInt pos.col, .ref c']) (h' := h') I hP (fun b o hb e => hx b o hb e) hm hge ⟨oc, vs, t, hoc, hd, hv⟩
    have I1 := I0.kept (t' := tk) (h' := h'.push (lmObj X params body scope ((X.mg "__name__").getD .none) c' ctv)) fun b u e => Heap.get?_push_of_some _ e
    have fp := I0.fpOk (b := h'.objs.size) (Nat.le_refl _) (I0.hok.fresh (Nat.le_refl _))
    exact h h'.objs.size c' _ _ ctv _ _ I1 (tab_new hP ht ha nC) (fun b o hb e => Heap.get?_push_of_some _ (hx b o hb e)) (Heap.get?_push_size _ rfl) fp upd_same hsz
  | some cv =>
    obtain ⟨c', q, e, hco⟩ := ha pos cv hc
    subst e
    refine PySem.W.kla_makeFunctionHit (mg := X.mg) (c := c) (P := P) (ps := ps) (closure_ok hfree) I.ok.glob (I.mod.glob.keeps I.bk) hcode (TB.code.keeps I.bk) hP' ht hc bP fun ctv h' tk hx hsz => ?_
    have I0 : Inv X pins σ H { s with heap := h', toks := tk } := I.kept fun b o e => hx b o e
    have I1 := I0.kept (t' := tk) (h' := h'.push (lmObj X params body scope ((X.mg "__name__").getD .none) c' ctv)) fun b u e => Heap.get?_push_of_some _ e
    have fp := I0.fpOk (b := h'.objs.size) (Nat.le_refl _) (I0.hok.fresh (Nat.le_refl _))
    exact h h'.objs.size c' q _ ctv H _ I1 ⟨hT, fun _ _ _ => rfl⟩ (fun b o _ e => Heap.get?_push_of_some _ (hx b o e)) (Heap.get?_push_size _ rfl) fp hco hsz
theorem lm_start {A : Around} {q : Str} {scope : Scope} {a : Str} {j : Nat} {f c' : Addr} {v : V} {u : Value} {h₁ : Heap} {tk : Nat} (I : Inv X pins σ H s) (S : LmS X.N X.env.scope scope a j) (hN : X.N.Nodup) (hA : A.handled = none) (hfr : A.frames = some X.stack)
    (r : RelV v u) (hns : h₁.Ns s.heap.objs.size fun y => ([(a, u)] : List (Str × Value)).reverse.lookup y) (kp : ∀ b o, s.heap.get? b = some o → h₁.get? b = some o) :
    Inv (genCx X (A.deeper (lmV X q scope s.heap.objs.size f c')) s H (lmV X q scope s.heap.objs.size f c') []) [] ((wipe σ [j]).set j (some v)) H { s with heap := h₁, toks := tk } := by
  have hfree : ∀ y ∈ scope.names, y.2 = .free → ∃ c, X.env.cells.lookup y.1 = some c := fun y hy e => by
    rcases S.free y hy e with k | k
    · exact I.ok.has _ (.inl k)
    · exact I.ok.has _ (.inr k)
  have cm : ∀ {y c}, (cloFrom X.env.cells scope.names []).lookup y = some c → X.env.cells.lookup y = some c := fun {y c} e => by
    rcases cloFrom_mem (PySem.mem_of_lookup e) with hm | ⟨h1, h2⟩
    · cases hm
    · obtain ⟨c1, hc⟩ := hfree _ h1 rfl
      have hc : X.env.cells.lookup y = some c1 := hc
      have e2 : c = c1 := by
        rw [h2, hc] <;> rfl
      rw [e2]
      exact hc
  have look : ∀ {y}, scope.names.lookup y = some .free → ∃ c, (cloFrom X.env.cells scope.names []).lookup y = some c := fun {y} hl => by
    have hy : (y, NameKind.free) ∈ scope.names := PySem.mem_of_lookup hl
    exact mem_lookup (cloFrom_has (cells := X.env.cells) (acc := []) hy)
  have cellK : ∀ {c : Addr} {v : Option Value}, s.heap.IsCell c v → h₁.IsCell c v := fun {c v} ⟨o, ho, hd⟩ => ⟨o, kp _ _ ho, hd⟩
  have e0 := I.env0
  refine ⟨⟨e0.mod, S.kind, rfl, rfl, Nat.le_refl _, fun y z c e1 e2 => I.ok.inj y z c (cm e1) (cm e2), fun y hy => ?_, fun y c z _ => ?_, fun _ => hA, Around.frames_deeper hfr, .inr ⟨rfl, rfl⟩, fun b hb => absurd hb List.not_mem_nil, e0.bs, e0.bsz, fun b o e hb => absurd hb List.not_mem_nil, fun b hb z => absurd hb List.not_mem_nil, e0.funs, e0.frf⟩,
    rfl, I.bare, Un.kept kp, ⟨_, hns, fun i y w e1 e2 e3 => ?_⟩, fun y c e => ?_, e0.hok.fresh (Nat.le_refl _), fun y c e => I.freeC y c (cm e), fun q hq => absurd (show q ∈ ([] : List (Addr × Obj)) ++ [] from hq) (by simp), e0.hok.kept kp, by rw [List.length_set, wipe_length]; exact I.len⟩
  · have hy : scope.names.lookup y = some .cell ∨ scope.names.lookup y = some .free := hy
    rcases hy with hy | hy
    · exact absurd rfl (S.nocell _ (PySem.mem_of_lookup hy))
    · exact look hy
  · have z : false = true := z
    cases z
  · by_cases hij : j = i
    · subst hij
      have ey : y = a := Option.some.inj (e1.symm.trans S.ix)
      subst ey
      have hl : j < (wipe σ [j]).length := by
        rw [wipe_length, I.len]
        exact (List.getElem?_eq_some_iff.mp S.ix).1
      rw [List.getElem?_set_self hl] at e2
      cases e2
      exact ⟨u, r, .inl ⟨S.par, by simp⟩⟩
    · rw [List.getElem?_set_ne hij] at e2
      obtain ⟨e2, hne⟩ := wipe_some e2
      have e3 : Vis scope y := e3
      rcases e3 with k | k | k
      · have ey : y = a := S.loc _ (PySem.mem_of_lookup k) rfl
        subst ey
        exact absurd (nodup_ix hN S.ix e1) hij
      · exact absurd rfl (S.nocell _ (PySem.mem_of_lookup k))
      · obtain ⟨m, hn, hl⟩ := I.loc
        have hvis : Vis X.env.scope y := (S.free _ (PySem.mem_of_lookup k) rfl).elim (fun k => .inr (.inl k)) (fun k => .inr (.inr k))
        obtain ⟨w', r, q⟩ := hl i y w e1 e2 hvis
        obtain ⟨c2, h2⟩ := look k
        refine ⟨w', r, .inr ⟨.inr k, c2, h2, ?_⟩⟩
        have c1 := cm h2
        rcases q with ⟨k', _⟩ | ⟨_, c3, e', z⟩
        · have k' : X.env.scope.names.lookup y = some .local := k'
          rcases S.free _ (PySem.mem_of_lookup k) rfl with k2 | k2 <;> rw [show X.env.scope.names.lookup y = _ from k2] at k' <;> cases k'
        · rw [c1] at e'
          cases e'
          exact cellK z
  · obtain ⟨w', z⟩ := I.cell y c (cm e)
    exact ⟨w', cellK z⟩
/-- f(u) -/
theorem lm_call {A : Around} {k : Nat} {q : Str} {params : Arguments} {body : Expr} {scope : Scope} {a : Str} {j : Nat} {f c' : Addr} {pm ctv : Value} {v : V} {u : Value} {te : TE} {Q : VK} {E : Value → Shared → Prop} (I : Inv X pins σ H s) (S : LmS X.N X.env.scope scope a j) (hN : X.N.Nodup)
    (hr : Room (k + 1) A) (hfr : A.frames = some X.stack) (hf : s.heap.get? f = some (lmObj X params body scope pm c' ctv)) (hco : H c' = some (LamX.CodeO c' q)) (hbind : bindArgs (PySem.W.kla_fn "<lambda>" (X.env.qual ++ "<lambda>") params body scope (cloFrom X.env.cells scope.names []) pm (.ref c') ctv) ⟨[u], []⟩ = pure [(a, u)])
    (r : RelV v u) (hbody : ∀ env : Env, env = lmV X q scope s.heap.objs.size f c' → Room k (A.deeper env) → PE (genCx X (A.deeper env) s H env []) body te) (h : te ((wipe σ [j]).set j (some v)) H Q) :
    wpAny (model X.prog X.w) A (call (.ref f) [u]) (EP X pins σ Q) E s := by
  refine wpAny_call ?_
  obtain ⟨⟨oc, vs, t, hoc, hdc, hvc⟩, _, _⟩ := I.hok c' _ hco
  refine call_fnQ hr.depth hf rfl S.co S.gen rfl rfl ⟨oc, vs, t, hoc, hdc, hvc⟩ ?_
  rw [hbind]
  refine wpAny_pure (wpAny_newFunctionEnv S.nocell (fun x hx => ?_) (fun h₁ hns hsb => ⟨I.nolimit.fresh _ hsb, ?_⟩) S.kind)
  · rw [List.mem_singleton.mp hx]
    exact S.par
  · show codeAny _ _ (.expr body (lmV X q scope s.heap.objs.size f c')) _ _
    have kp : ∀ b o, s.heap.get? b = some o → h₁.get? b = some o := fun b o e => hsb.extBut b o (Nat.ne_of_lt (Heap.lt_size e)) (Heap.get?_push_of_some _ e)
    have J := lm_start (q := q) (f := f) (c' := c') (tk := s.toks + ([(a, u)] : List (Str × Value)).length) I S hN hr.hd hfr r hns kp
    refine PySem.W.kla_codeExpr (wpAny_mono ((hbody _ rfl (hr.deeper _)).run [] _ _ H Q J h) (fun v' s' hq => ?_) fun e s' hq => (show False from hq).elim)
    obtain ⟨w', H', J', rv, q⟩ := hq
    exact ⟨w', H', I.call' (ch := []) J'.os J'.base J'.hok J'.bare (fun b hb => absurd hb List.not_mem_nil), rv, q⟩
end
end DL
namespace DL
open PySem PySem.Spec PyProof.Rows L2
/-- v, got at s1, will be walked as J -/
def LatI (X : Cx) (pins : List (Addr × Obj)) (σ : L2.St) (tg : Expr) (v : Value) (H1 : Hp) (s1 : Shared) (J : It) : Prop :=
  ∀ (P : Addr) (H2 : Hp) (s2 : Shared) (Q : Value → Shared → Prop) (E : Value → Shared → Prop), Inv X pins σ H2 s2 → TabC H1 P → Tabd P H1 H2 → (∀ b o, b ≠ P → s1.heap.get? b = some o → s2.heap.get? b = some o) →
    (∀ (it : Addr) (fp : List Addr) (tn : Nat → Heap → Prop) (s3 : Shared), Inv X pins σ H2 s3 → Turn X.prog X.w X.K tg J fp it tn → tn 0 s3.heap → (∀ b ∈ fp, FpOk X pins H2 b ∧ s2.heap.objs.size ≤ b) → (∀ b o, s2.heap.get? b = some o → s3.heap.get? b = some o) → Q (.ref it) s3) →
    wpAny (model X.prog X.w) X.A.in1 (pyIter v) Q E s2
structure PL (X : Cx) (tg iter : Expr) (wi : TI) : Prop where
  run : ∀ (pins : List (Addr × Obj)) (s : Shared) (σ : L2.St) (H : Hp) (R : It → Hp → Prop), Inv X pins σ H s → wi σ H R →
    wpAny (model X.prog X.w) X.A (eval iter X.env) (fun v s1 => ∃ (J : It) (H1 : Hp), Inv X pins σ H1 s1 ∧ LatI X pins σ tg v H1 s1 J ∧ R J H1) X.xe s
theorem pl_mono {X : Cx} {tg it : Expr} {t t' : TI} (h : PL X tg it t) (q : ∀ σ H R, t' σ H R → t σ H R) : PL X tg it t' := ⟨fun pins s σ H R I z => h.run pins s σ H R I (q _ _ _ z)⟩
theorem pl_or {X : Cx} {tg it : Expr} {t t' : TI} (h : PL X tg it t) (h' : PL X tg it t') : PL X tg it (fun σ H R => t σ H R ∨ t' σ H R) := ⟨fun pins s σ H R I z => z.elim (h.run pins s σ H R I) (h'.run pins s σ H R I)⟩
theorem tabd_keep {P : Addr} {H1 H2 : Hp} (t : TabC H1 P) (d : Tabd P H1 H2) {a : Addr} {o : HO} (e : H1 a = some o) (n : ∀ ps, o ≠ .tbl ps) : H2 a = some o := by
  obtain ⟨ps, hp, _⟩ := t
  rw [d.2 a (fun z => by rw [z, hp] at e; cases e; exact n _ rfl) (by rw [e]; exact fun z => by cases z)]
  exact e
section
variable {X : Cx} {tg : Expr}
theorem pl_list {l : Expr} {tl : TE} (hl : PE X l tl) : PL X tg l (iList X.K tl) := by
  refine ⟨fun pins s σ H R I h => ?_⟩
  refine thn (hl.run pins s σ H _ I h) fun v s1 ⟨x, H1, I1, r1, q1⟩ => ?_
  obtain ⟨a, e, ⟨xs, hq⟩, q⟩ := q1
  subst e
  cases r1
  refine ⟨Itl X.K a, H1, I1, fun P H2 s2 Q E I2 hT hd hk h => ?_, q⟩
  have hq2 : SqL X.K H2 a xs := by
    rcases hq with (z | ⟨ob, z⟩) | z
    · exact .inl (.inl (tabd_keep hT hd z fun ps z => by cases z))
    · exact .inl (.inr ⟨ob, tabd_keep hT hd z fun ps z => by cases z⟩)
    · exact .inr z
  obtain ⟨its, rv, p, hz⟩ := I2.list hq2
  refine wpAny_pyIter_list p.isList ?_
  refine h s2.heap.objs.size [s2.heap.objs.size] _ _ (I2.kept (t' := s2.toks) fun b o e => Heap.get?_push_of_some _ e) (turn_list a _) ⟨_, Heap.get?_push_size _ rfl, rfl, rfl⟩ (fun b hb => ?_) fun b o e => Heap.get?_push_of_some _ e
  have e : b = s2.heap.objs.size := by simpa using hb
  subst e
  exact ⟨I2.fpOk (Nat.le_refl _) (I2.hok.fresh (Nat.le_refl _)), Nat.le_refl _⟩
theorem pl_tup {l : Expr} {tl : TE} (hl : PE X l tl) : PL X tg l (iTup X.K tl) := by
  refine ⟨fun pins s σ H R I h => ?_⟩
  refine thn (hl.run pins s σ H _ I h) fun v s1 ⟨x, H1, I1, r1, q1⟩ => ?_
  obtain ⟨a, e, ⟨xs, hq⟩, q⟩ := q1
  subst e
  cases r1
  refine ⟨Itt X.K a, H1, I1, fun P H2 s2 Q E I2 hT hd hk h => ?_, q⟩
  have hq2 : SqT X.K H2 a xs := by
    rcases hq with (z | ⟨ob, z⟩) | z
    · exact .inl (.inl (tabd_keep hT hd z fun ps z => by cases z))
    · exact .inl (.inr ⟨ob, tabd_keep hT hd z fun ps z => by cases z⟩)
    · exact .inr z
  obtain ⟨its, rv, p, hz⟩ := I2.tuple hq2
  refine wpAny_pyIter_tuple (show s2.heap.IsTuple a its.toArray from p) ?_
  refine h s2.heap.objs.size [s2.heap.objs.size] _ _ (I2.kept (t' := s2.toks) fun b o e => Heap.get?_push_of_some _ e) (turn_tuple a _) ⟨_, Heap.get?_push_size _ rfl, rfl, rfl⟩ (fun b hb => ?_) fun b o e => Heap.get?_push_of_some _ e
  have e : b = s2.heap.objs.size := by simpa using hb
  subst e
  exact ⟨I2.fpOk (Nat.le_refl _) (I2.hok.fresh (Nat.le_refl _)), Nat.le_refl _⟩
/-- a range object just made -/
theorem range_late {pins : List (Addr × Obj)} {σ : L2.St} {H : Hp} {s : Shared} {R : It → Hp → Prop} {lo hi : Int} {t u v : Tok} {tk : Nat} (I : Inv X pins σ H s) (h1 : -(2 ^ 62) ≤ lo) (h2 : lo < 2 ^ 62) (h3 : -(2 ^ 62) ≤ hi) (h4 : hi < 2 ^ 62)
    (q : R (Itr lo (hi - lo).toNat) H) : ∃ (J : It) (H1 : Hp), Inv X pins σ H1 { s with heap := s.heap.push { cls := .type "range", data := .fields #[.int lo t, .int hi u, .int 1 v] }, toks := tk } ∧
      LatI X pins σ tg (.ref s.heap.objs.size) H1 { s with heap := s.heap.push { cls := .type "range", data := .fields #[.int lo t, .int hi u, .int 1 v] }, toks := tk } J ∧ R J H1 := by
  have I1 : Inv X pins σ H { s with heap := s.heap.push { cls := .type "range", data := .fields #[.int lo t, .int hi u, .int 1 v] }, toks := tk } := I.kept fun b o e => Heap.get?_push_of_some _ e
  refine ⟨_, H, I1, fun P H2 s2 Q E I2 hT hd hk h => ?_, q⟩
  have nP : s.heap.objs.size ≠ P := fun z => by
    obtain ⟨ps, hp, _⟩ := hT
    have := I.hok.fresh (Nat.le_refl s.heap.objs.size)
    rw [z, hp] at this
    cases this
  have ho : IsRange s2.heap s.heap.objs.size lo hi 1 t u v := hk _ _ nP (IsRange.new ..)
  refine wpAny_pyIter_range ho (small_one h1 h2 h3 h4) ?_
  refine h s2.heap.objs.size [s2.heap.objs.size] _ _ (I2.kept (t' := s2.toks) fun b o e => Heap.get?_push_of_some _ e) (turn_range _ lo (hi - lo).toNat) ?_ (fun b hb => ?_) fun b o e => Heap.get?_push_of_some _ e
  · have e1 : lo + ((0 : Nat) : Int) * 1 = lo := by simp
    have e2 : (((hi - lo).toNat : Nat) : Int) - ((0 : Nat) : Int) = Builtin.Range.rangeSize lo hi 1 := by rw [rangeSize_one]; split <;> omega
    show IsRangeIter _ _ (lo + ((0 : Nat) : Int) * 1) ((((hi - lo).toNat : Nat) : Int) - ((0 : Nat) : Int)) 1
    rw [e1, e2]
    exact Heap.get?_push_size _ rfl
  · have e : b = s2.heap.objs.size := by simpa using hb
    subst e
    exact ⟨I2.fpOk (Nat.le_refl _) (I2.hok.fresh (Nat.le_refl _)), Nat.le_refl _⟩
theorem pl_range1 {a : Expr} {ta : TA} {p pos : Pos} (hg : Gl X "range") (hm : X.mg "range" = none) (ha : PA X [a] ta) (hs : starEach [a] X.env = [(false, eval a X.env)] := by rfl) : PL X tg (.Call (.Name "range" p) [a] [] pos) (iRng1 ta) := by
  refine ⟨fun pins s σ H R I h => ?_⟩
  refine Call_ (ld_blt I hg hm boot_range (PyProof.Rows.callWith_type1 (thn (ha.run pos pins s σ H _ I h) fun us s1 ⟨vs, H1, I1, r1, q1⟩ => ?_) hs rfl))
  obtain ⟨j, e, q1, q2, q⟩ := q1
  subst e
  cases r1 with
  | cons r rr =>
    cases rr
    obtain ⟨t, rfl⟩ := r
    exact call_range_1 (range_late I1 (by omega) (by omega) q1 q2 (by simpa using q))
theorem pl_range2 {a b : Expr} {ta : TA} {p pos : Pos} (hg : Gl X "range") (hm : X.mg "range" = none) (ha : PA X [a, b] ta) (hs : starEach [a, b] X.env = [(false, eval a X.env), (false, eval b X.env)] := by rfl) (hs2 : starEach [b] X.env = [(false, eval b X.env)] := by rfl) :
    PL X tg (.Call (.Name "range" p) [a, b] [] pos) (iRng2 ta) := by
  refine ⟨fun pins s σ H R I h => ?_⟩
  refine Call_ (ld_blt I hg hm boot_range (PyProof.Rows.callWith_type1 (thn (ha.run pos pins s σ H _ I h) fun us s1 ⟨vs, H1, I1, r1, q1⟩ => ?_) (by rw [hs, hs2]) (by rw [hs2]; rfl)))
  obtain ⟨i, j, e, ⟨q1, q2, q3, q4⟩, q⟩ := q1
  subst e
  cases r1 with
  | cons r rr =>
    cases rr with
    | cons r' rr =>
      cases rr
      obtain ⟨t, rfl⟩ := r
      obtain ⟨t', rfl⟩ := r'
      exact call_range_2 (range_late I1 q1 q2 q3 q4 q)
end
abbrev DV (X : Cx) (W : WX) (tg it : Expr) (g : AE → Rs (List PyData)) (ls : List Nat) : Prop := PL X tg it (tI X.K W g ls)
section
variable {X : Cx} {W : WX} {e a b tg : Expr} {f : AE → Rs AV} {g h : AE → Rs PyData} {pos p : Pos} {ls : List Nat}
theorem dv_rg1 (hg : Gl X "range") (hm : X.mg "range" = none) (ha : DR X W a g) (hs : starEach [a] X.env = [(false, eval a X.env)] := by rfl) : DV X W tg (.Call (.Name "range" p) [a] [] pos) (iRg1 g) [] := pl_mono (pl_range1 hg hm (pa_cons ha pa_nil hs) hs) fun σ H R ⟨c, σa, Z, q⟩ => ⟨c, σa, Z, (Go.bind q).mono fun d q v H1 k1 r1 => by
  split at q
  · rename_i n
    split at q
    · rename_i hn
      cases br_int r1
      obtain ⟨h1, h2, h3, h4⟩ := hn.lt
      refine ⟨n, rfl, by omega, by omega, q _ H1 k1 ?_⟩
      have := yl_rg (K := X.K) (P := Pr c σa σ) (inn := Mu (lend [] σa) σ) (ts := c.tabs) (H1 := H1) (lo := 0) (n := n.toNat)
      unfold rgD
      rw [Int.sub_zero]
      exact this
    · exact q.elim
  · exact q.elim⟩
theorem dv_rg2 (hg : Gl X "range") (hm : X.mg "range" = none) (ha : DR X W a g) (hb : DR X W b h) (hs : starEach [a, b] X.env = [(false, eval a X.env), (false, eval b X.env)] := by rfl) (hs2 : starEach [b] X.env = [(false, eval b X.env)] := by rfl) : DV X W tg (.Call (.Name "range" p) [a, b] [] pos) (iRg2 g h) [] :=
  pl_mono (pl_range2 hg hm (pa_cons ha (pa_cons hb pa_nil hs2) (by rw [hs, hs2])) hs hs2) fun σ H R ⟨c, σa, Z, q⟩ => ⟨c, σa, Z, (Go.bind q).mono fun d q v H1 k1 r1 => ⟨c, σa, Z.kp k1, ((Go.bind q).later k1).mono fun e q w H2 k2 r2 => by
  obtain ⟨n, m, rfl, rfl, hn, q⟩ := rg2_ok q
  cases br_int r1; cases br_int r2
  obtain ⟨h1, h2, h3, h4⟩ := hn.lt
  exact ⟨n, m, rfl, ⟨by omega, by omega, by omega, by omega⟩, q _ H2 (k1.trans k2) yl_rg⟩⟩⟩
theorem dv_seq (he : DE X W e f) : DV X W tg e (iSeq (lsFor f ls)) ls := pl_mono (pl_or (pl_list he) (pl_tup he)) fun σ H R ⟨c, σa, Z, q⟩ => by
  have q := go_ls (Go.bind (show Go X.K W c σ H (((lsFor f ls σa).bind (gt σa)).bind itemsD) _ from q))
  cases ef : f σa with
  | st => rw [ef] at q; exact q.elim
  | ex x => rw [ef] at q; exact .inl ⟨c, σa, Z, by rw [ef]; exact q⟩
  | ok av =>
    rw [ef] at q
    obtain ⟨hls, q⟩ := q
    obtain ⟨d, ed, q⟩ := go_gt q
    cases d with
    | list l =>
      refine .inl ⟨c, σa, Z, ?_⟩
      rw [ef]
      intro v H1 k1 r1
      obtain ⟨a, xs, rfl, s, f1, na⟩ := seq_l Z k1 r1 hls ed
      exact ⟨a, rfl, ⟨xs, .inl (.inl s)⟩, q _ H1 k1 (yl_lst s f1 lend_rt na)⟩
    | tuple l =>
      refine .inr ⟨c, σa, Z, ?_⟩
      rw [ef]
      intro v H1 k1 r1
      obtain ⟨a, xs, rfl, s, f1⟩ := seq_t Z k1 r1 ed
      exact ⟨a, rfl, ⟨xs, s⟩, q _ H1 k1 (yl_tup s f1 lend_rt)⟩
    | _ => exact (show False from q).elim
end
end DL
namespace DL
open PySem PySem.Spec PyProof.Rows L2 PySem.W
/-- the key of d: the body of the lambda, its parameter in slot j -/
def kfD (fe : AE → Rs AV) (s : AE) (j : Nat) (d : PyData) : Rs PyData := (nox (fe (s.set j (.v d)))).bind fun av => match av with
  | .d false x => .ok x
  | _ => .st
def minKL (kf : PyData → Rs PyData) : PyData → PyData → List PyData → Rs PyData
  | d, _, [] => .ok d
  | d, k, x :: xs => (kf x).bind fun kx => if al2 [kx, k] = true then (if dataLt kx k = true then minKL kf x kx xs else minKL kf d k xs) else .st
def minKD (kf : PyData → Rs PyData) : List PyData → Rs PyData
  | [] => .st
  | x :: xs => (kf x).bind fun k => minKL kf x k xs
/-- min(it, key=lambda j: fe) -/
def eMinK (it : AE → Rs (List PyData)) (j : Nat) (fe : AE → Rs AV) : AE → Rs AV := fun s => (it s).bind fun ds => if free1 s j = true then (nox (minKD (kfD fe (wipeA s [j]) j) ds)).bind fun r => .ok (dv r) else .st
theorem wp_after {M : Model} {A : Around} {α : Type} {s : Shared} {Φ : Unit → Shared → Prop} {E' : Value → Shared → Prop} {t : Sem α} {Q : α → Shared → Prop} {E : Value → Shared → Prop} (h : wpAny M A (pure () : Sem Unit) Φ E' s) (k : Φ () s → wpAny M A t Q E s) : wpAny M A t Q E s := fun Γ p hΓ => k (h Γ p hΓ) Γ p hΓ
section
variable {X : Cx} {pins : List (Addr × Obj)} {σ : L2.St} {H H' : Hp} {s : Shared}
abbrev in1X (X : Cx) : Cx := { X with A := X.A.in1 }
theorem inv_in1 (I : Inv X pins σ H s) : Inv (in1X X) pins σ H s := ⟨⟨I.ok.mod, I.ok.kind, I.ok.glob, I.ok.blt, I.ok.above, I.ok.inj, I.ok.has, I.ok.cab, I.ok.hd, I.ok.frames, I.ok.stk, I.ok.exf, I.ok.bs, I.ok.bsz, I.ok.noex, I.ok.exfs, I.ok.funs, I.ok.frf⟩, I.os, I.bare, I.base, I.loc, I.cell, I.free, I.freeC, I.pin, I.hok, I.len⟩
theorem inv_out1 (hA : X.calm = true → X.A.handled = none) (hf : X.A.frames = some X.stack) (I : Inv (in1X X) pins σ H s) : Inv X pins σ H s := ⟨⟨I.ok.mod, I.ok.kind, I.ok.glob, I.ok.blt, I.ok.above, I.ok.inj, I.ok.has, I.ok.cab, hA, hf, I.ok.stk, I.ok.exf, I.ok.bs, I.ok.bsz, I.ok.noex, I.ok.exfs, I.ok.funs, I.ok.frf⟩, I.os, I.bare, I.base, I.loc, I.cell, I.free, I.freeC, I.pin, I.hok, I.len⟩
theorem fpOk_pin {pl : List (Addr × Obj)} {b : Addr} (f : FpOk X pins H b) (h : ∀ p ∈ pl, p.1 ≠ b) : FpOk X (pins ++ pl) H b := ⟨f.1, f.2.1, f.2.2.1, f.2.2.2.1, f.2.2.2.2.1, fun p hp => by
  rcases List.mem_append.mp hp with z | z
  · exact f.2.2.2.2.2 p (List.mem_append_left _ z)
  · rcases List.mem_append.mp z with z | z
    · exact f.2.2.2.2.2 p (List.mem_append_right _ z)
    · exact h p z⟩
theorem fpOk_H {b : Addr} (f : FpOk X pins H b) (h : H' b = none) : FpOk X pins H' b := ⟨h, f.2⟩
end
/-- the objects of a walk by key: the iterator's (fp), the work list w, the lambda f -/
structure KyOk (X : Cx) (pins : List (Addr × Obj)) (H : Hp) (fp : List Addr) (w f : Addr) : Prop where
  okI : ∀ b ∈ fp, FpOk X pins H b
  okW : FpOk X pins H w
  okF : FpOk X pins H f
  nW : w ∉ fp
  nF : f ∉ fp
  ne : f ≠ w
theorem KyOk.next {X : Cx} {pins : List (Addr × Obj)} {H H' : Hp} {fp : List Addr} {w f : Addr} (k : KyOk X pins H fp w f) (h1 : ∀ b ∈ fp, H' b = none) (h2 : H' w = none) (h3 : H' f = none) : KyOk X pins H' fp w f := ⟨fun b hb => fpOk_H (k.okI b hb) (h1 b hb), fpOk_H k.okW h2, fpOk_H k.okF h3, k.nW, k.nF, k.ne⟩
section
variable {X : Cx} {σ : L2.St} {pins : List (Addr × Obj)}
/-- one turn's item: the work list and the lambda are kept -/
theorem ky_item {tg : Expr} {J : It} {fp : List Addr} {it S f : Addr} {tn : Nat → Heap → Prop} {i : Nat} {s : Shared} {H : Hp} {oS oF : Obj} {Q : Option Value → Shared → Prop} {E : Value → Shared → Prop} (hc : X.calm = true) (T : Turn X.prog X.w X.K tg J fp it tn)
    (htg : ∀ it u, letOwnedTupleGo tg it u = pure ()) (I : Inv X pins σ H s) (st : tn i s.heap) (ky : KyOk X pins H fp S f) (go : J.go i H) (hS : s.heap.get? S = some oS) (hF : s.heap.get? f = some oF) (nS : ∀ v, oS.data ≠ .cell v) (nF : ∀ v, oF.data ≠ .cell v)
    (hQ : ∀ (r : Option Value) (s1 : Shared) (Φ : Unit → Shared → Prop), wpAny (model X.prog X.w) X.A.in1 (pure () : Sem Unit) Φ (fun _ _ => False) s1 → (Φ () s1 → Q r s1) → Q r s1)
    (h : ∀ u x H' s1, Inv X pins σ H' s1 → RelV x u → J.yld i H x H' → tn (i + 1) s1.heap → KyOk X pins H' fp S f → s1.heap.get? S = some oS → s1.heap.get? f = some oF → Q (some u) s1) : wpAny (model X.prog X.w) X.A.in1 (pyNext (.ref it)) Q E s := by
  have I1 := I.pinned (fp := [f, S]) (fun b hb => by
    rcases List.mem_cons.mp hb with rfl | hb
    · exact ky.okF
    · rw [List.mem_singleton.mp hb]
      exact ky.okW) fun b hb => by
    rcases List.mem_cons.mp hb with rfl | hb
    · exact ⟨_, hF, nF⟩
    · rw [List.mem_singleton.mp hb]
      exact ⟨_, hS, nS⟩
  have pS : (S, oS) ∈ pinsAt [f, S] s.heap := mem_pinsAt (by simp) hS
  have pF : (f, oF) ∈ pinsAt [f, S] s.heap := mem_pinsAt (by simp) hF
  refine wpAny_mono (T.item (in1X X) rfl rfl rfl hc i _ s _ H (fun _ _ => False) (inv_in1 I1) (fun b hb => fpOk_pin (ky.okI b hb) fun p hp z => ?_) st go) (fun r s1 hr => ?_) fun _ _ z => z.elim
  · obtain ⟨h1, _⟩ := of_pinsAt hp
    rw [z] at h1
    rcases List.mem_cons.mp h1 with e | h1
    · exact ky.nF (e ▸ hb)
    · exact ky.nW (List.mem_singleton.mp h1 ▸ hb)
  · obtain ⟨u, rfl, h2⟩ := hr
    rw [htg] at h2
    refine hQ _ _ _ h2 fun ⟨x, H', I2, r2, y2, st2, n2⟩ => ?_
    have p2 := I2.pin
    obtain ⟨e1, e2, _⟩ := p2 (S, oS) (List.mem_append_right _ (List.mem_append_right _ pS))
    obtain ⟨e3, e4, _⟩ := p2 (f, oF) (List.mem_append_right _ (List.mem_append_right _ pF))
    exact h u x H' s1 (inv_out1 I.ok.hd I.ok.frames I2).unpinned r2 y2 st2 (ky.next n2 e2 e4) e1 e3
/-- the key of an item: all is kept -/
theorem ky_key {K : Fr} {fp : List Addr} {it S f c' : Addr} {tn : Nat → Heap → Prop} {i k j : Nat} {s : Shared} {H : Hp} {oS : Obj} {params : Arguments} {body : Expr} {scope : Scope} {a q : Str} {pm ctv u : Value} {x : V} {c : RC} {σa : AE} {d kd : PyData} {fe : AE → Rs AV} {Q : Value → Shared → Prop} {E : Value → Shared → Prop}
    (hr : Room (k + 2) X.A) (Sc : LmS X.N X.env.scope scope a j) (hN : X.N.Nodup) (I : Inv X pins σ H s) (ky : KyOk X pins H fp S f) (ho : ∀ b ∈ fp, ∃ o, s.heap.get? b = some o ∧ ∀ v, o.data ≠ .cell v) (hS : s.heap.get? S = some oS) (nS : ∀ v, oS.data ≠ .cell v) (hF : s.heap.get? f = some (lmObj X params body scope pm c' ctv)) (hco : H c' = some (LamX.CodeO c' q))
    (hbind : bindArgs (PySem.W.kla_fn "<lambda>" (X.env.qual ++ "<lambda>") params body scope (cloFrom X.env.cells scope.names []) pm (.ref c') ctv) ⟨[u], []⟩ = pure [(a, u)])
    (hbody : ∀ (A : Around) (s : Shared) (H : Hp) (env : Env), env = lmV X q scope s.heap.objs.size f c' → Room k (A.deeper env) → DE (genCx X (A.deeper env) s H env []) W0 body fe)
    (r : RelV x u) (Z : Rst X.K c H σa σ) (hfr : free1 σa j = true) (hx : Fz X.K (Pr c σa σ) H x d) (hk : kfD fe (wipeA σa [j]) j d = .ok kd)
    (h : ∀ v y H' s1, Inv X pins σ H' s1 → Kp c.tabs H H' → RelV y v → Fz X.K (Pr c σa σ) H' y kd → KyOk X pins H' fp S f → (∀ b ∈ fp, ∀ o, s.heap.get? b = some o → s1.heap.get? b = some o) → s1.heap.get? S = some oS → s1.heap.get? f = some (lmObj X params body scope pm c' ctv) → Q v s1) : wpAny (model X.prog X.w) X.A.in1 (call (.ref f) [u]) Q E s := by
  have nF : ∀ v, (lmObj X params body scope pm c' ctv).data ≠ .cell v := fun v z => by
    have z : Data.func _ = Data.cell v := z
    cases z
  have I1 := I.pinned (fp := f :: S :: fp) (fun b hb => by
    rcases List.mem_cons.mp hb with rfl | hb
    · exact ky.okF
    · rcases List.mem_cons.mp hb with rfl | hb
      · exact ky.okW
      · exact ky.okI b hb) fun b hb => by
    rcases List.mem_cons.mp hb with rfl | hb
    · exact ⟨_, hF, nF⟩
    · rcases List.mem_cons.mp hb with rfl | hb
      · exact ⟨_, hS, nS⟩
      · exact ho b hb
  have pin : ∀ b ∈ f :: S :: fp, ∀ o, s.heap.get? b = some o → (b, o) ∈ pinsAt (f :: S :: fp) s.heap := fun b hb o e => mem_pinsAt hb e
  have hw : ∀ i ∈ [j], free1 σa i = true := fun i hi => by rw [List.mem_singleton.mp hi]; exact hfr
  have Zw := rst_wipe Z hw
  have hl : j < (wipeA σa [j]).length := by
    rw [wipeA_len, Z.len, I.len]
    exact (List.getElem?_eq_some_iff.mp Sc.ix).1
  have hj : (wipeA σa [j])[j]? = some AS.un := List.getElem?_set_self (by have := hl; rw [wipeA_len] at this; exact this)
  have ha : asg (wipeA σa [j]) j = true := by
    unfold asg
    rw [hj]
  have hx' : Fz X.K (Pr c (wipeA σa [j]) (wipe σ [j])) H x d := hx.anti fun a z => z.elim (fun z => .inl ((rt_wipe hw).mp z)) .inr
  have Zx := rst_val Zw ha hx'
  -- the roots are the same
  have rts : ∀ a, Pr c σa σ a → Pr c ((wipeA σa [j]).set j (.v d)) ((wipe σ [j]).set j (some x)) a := fun a z => z.elim (fun z => .inl (by
    obtain ⟨i, kk, dd, h1, h2⟩ := (rt_wipe hw).mpr z
    have ne : j ≠ i := fun e => by
      rw [← e, hj] at h1
      cases h1
    exact ⟨i, kk, dd, by rw [List.getElem?_set_ne ne]; exact h1, by rw [List.getElem?_set_ne ne]; exact h2⟩)) .inr
  unfold kfD at hk
  obtain ⟨av, e1, e2⟩ := bind_ok hk
  have e1 := nox_ok e1
  have eav : av = .d false kd := by
    match av, e2 with
    | .d false y, e2 => cases e2; rfl
  subst eav
  refine wpAny_mono (lm_call (Q := fun w H5 => Kp c.tabs H H5 ∧ Fz X.K (Pr c σa σ) H5 w kd) (E := fun _ _ => False) (te := tD X.K W0 fe) I1 Sc hN (Room.in1 hr) I.ok.frames hF hco hbind r (fun env he hr' => hbody X.A.in1 s H env he hr') ⟨c, _, Zx, ?_⟩) (fun v s1 hv => ?_) fun _ _ z => z.elim
  · rw [e1]
    intro w H5 k5 r5
    have r5 : Fz X.K (Pr c ((wipeA σa [j]).set j (.v d)) ((wipe σ [j]).set j (some x))) H5 w kd := r5
    exact ⟨k5, r5.anti rts⟩
  · obtain ⟨w, H5, I5, r5, k5, f5⟩ := hv
    have st : ∀ b ∈ f :: S :: fp, ∀ o, s.heap.get? b = some o → s1.heap.get? b = some o ∧ H5 b = none := fun b hb o e =>
      let z := I5.pin (b, o) (List.mem_append_right _ (List.mem_append_right _ (pin b hb o e)))
      ⟨z.1, z.2.1⟩
    refine h v w H5 s1 I5.unpinned k5 r5 f5 (ky.next (fun b hb => ?_) (st S (by simp) _ hS).2 (st f (by simp) _ hF).2) (fun b hb o e => (st b (by simp [hb]) o e).1) (st S (by simp) _ hS).1 (st f (by simp) _ hF).1
    obtain ⟨o, e, _⟩ := ho b hb
    exact (st b (by simp [hb]) o e).2
/-- what stays the same in the walk -/
structure KyC (X : Cx) (k : Nat) (params : Arguments) (body : Expr) (scope : Scope) (a : Str) (j : Nat) (fe : AE → Rs AV) : Prop where
  calm : X.calm = true
  room : Room (k + 2) X.A
  sc : LmS X.N X.env.scope scope a j
  nd : X.N.Nodup
  bind : ∀ (q : Str) (cl : List (Str × Addr)) (pm cv ctv u : Value), bindArgs (PySem.W.kla_fn "<lambda>" q params body scope cl pm cv ctv) ⟨[u], []⟩ = pure [(a, u)]
  body : ∀ (A : Around) (s : Shared) (H : Hp) (q : Str) (L f c' : Addr), Room k (A.deeper (lmV X q scope L f c')) → DE (genCx X (A.deeper (lmV X q scope L f c')) s H (lmV X q scope L f c') []) W0 body fe
theorem not_cell_lm {params : Arguments} {body : Expr} {scope : Scope} {pm ctv : Value} {c' : Addr} : ∀ v, (lmObj X params body scope pm c' ctv).data ≠ .cell v := fun v z => by
  have z : Data.func _ = Data.cell v := z
  cases z
theorem reads1 {s : Shared} {H : Hp} {K : Fr} {P : Pd} (I : Inv X pins σ H s) {y : V} {v : Value} {d : PyData} (r : RelV y v) (f : Fz X.K P H y d) : ∃ as, Reads s.heap v d as := by
  obtain ⟨as, h⟩ := Dp.readsAll I _ _ _ (FzA.dp (FzA.cons f .nil)) (show Vals [y] [v] from .cons r .nil)
  cases h with
  | cons h1 h2 => exact ⟨_, h1⟩
theorem minKL_cons {kf : PyData → Rs PyData} {d kd x r : PyData} {xs : List PyData} (h : minKL kf d kd (x :: xs) = .ok r) : ∃ kx, kf x = .ok kx ∧ al2 [kx, kd] = true ∧ ((dataLt kx kd = true ∧ minKL kf x kx xs = .ok r) ∨ (dataLt kx kd = false ∧ minKL kf d kd xs = .ok r)) := by
  unfold minKL at h
  obtain ⟨kx, h1, h2⟩ := bind_ok h
  refine ⟨kx, h1, ?_⟩
  by_cases ha : al2 [kx, kd] = true
  · rw [if_pos ha] at h2
    refine ⟨ha, ?_⟩
    cases hb : dataLt kx kd with
    | true => rw [hb, if_pos rfl] at h2; exact .inl ⟨rfl, h2⟩
    | false => rw [hb, if_neg Bool.false_ne_true] at h2; exact .inr ⟨rfl, h2⟩
  · rw [if_neg ha] at h2
    cases h2
theorem wl_obj {xs : Array Value} {c : Nat} : ∀ v, (seqObj "list" xs c).data ≠ .cell v := fun v z => by
  have z : Data.seq _ _ = Data.cell v := z
  cases z
theorem mk_loop {tg : Expr} {J : It} {fp : List Addr} {it S f c' : Addr} {tn : Nat → Heap → Prop} {k j : Nat} {params : Arguments} {body : Expr} {scope : Scope} {a q : Str} {pm ctv : Value} {c : RC} {σa : AE} {fe : AE → Rs AV} {H1 : Hp} {ds : List PyData} {ls : List Nat} {r : PyData} {R : Result → Shared → Prop} (KC : KyC X k params body scope a j fe)
    (T : Turn X.prog X.w X.K tg J fp it tn) (htg : ∀ it u, letOwnedTupleGo tg it u = pure ()) (Z1 : Rst X.K c H1 σa σ) (hco : H1 c' = some (LamX.CodeO c' q)) (hfr : free1 σa j = true) (y : Yl X.K (Pr c σa σ) (Mu (lend ls σa) σ) c.tabs H1 J ds) (kw : List (Str × Value))
    (hR : ∀ s' H' u x, Inv X pins σ H' s' → Kp c.tabs H1 H' → RelV x u → Fz X.K (Pr c σa σ) H' x r → R (.ok (.ret u)) s') :
    ∀ (n i : Nat) (s : Shared) (H : Hp) (vb kb : Value) (xb yb : V) (d kd : PyData) (cc : Nat), ds.length - (i + 1) = n → i + 1 ≤ ds.length → Inv X pins σ H s → Kp c.tabs H1 H → tn (i + 1) s.heap → KyOk X pins H fp S f → s.heap.get? f = some (lmObj X params body scope pm c' ctv) →
      s.heap.get? S = some (seqObj "list" #[vb, kb] cc) → RelV xb vb → RelV yb kb → Fz X.K (Pr c σa σ) H xb d → Fz X.K (Pr c σa σ) H yb kd → minKL (kfD fe (wipeA σa [j]) j) d kd (ds.drop (i + 1)) = .ok r →
      codeAny (model X.prog X.w) X.A (.builtin "min.loop" ⟨[.ref it, .ref f, .ref S], kw⟩) R s := by
  have hname : (toString "min" ++ toString ".loop" : String) = "min.loop" := by decide
  intro n
  induction n with
  | zero =>
    intro i s H vb kb xb yb d kd cc hn hi I kk st ky hF hS rx ry fx fy hm
    have hin : ds.length = i + 1 := by omega
    obtain ⟨_, ys⟩ := y (i + 1) H (kk.k.imp fun _ z => z.elim) kk.t
    rw [← hin, List.drop_length] at hm
    cases hm
    refine codeAny_builtin F.entry_min_loop ?_
    rw [Around.under_plainId F.plain_min_loop _]
    show wpAny _ X.A.in1 (seqItems? (.ref S) >>= _) _ _ s
    refine wpAny_bind (wpAny_seqItems hS rfl ?_)
    show wpAny _ X.A.in1 (tryCatch (pyNext (.ref it)) _ >>= _) _ _ s
    have pS : (S, seqObj "list" #[vb, kb] cc) ∈ pinsAt [S] s.heap := mem_pinsAt (by simp) hS
    have I1 := I.pinned (fp := [S]) (fun b hb => by rw [List.mem_singleton.mp hb]; exact ky.okW) fun b hb => by
      rw [List.mem_singleton.mp hb]
      exact ⟨_, hS, wl_obj⟩
    refine wpAny_bind (wpAny_tryCatch (wpAny_mono (T.done (in1X X) rfl rfl rfl KC.calm (i + 1) _ s _ H (fun _ _ => False) (inv_in1 I1) (fun b hb => fpOk_pin (ky.okI b hb) fun p hp z => ?_) st (ys (by omega))) (fun ro s1 hro => ?_) fun _ _ z => z.elim))
    · obtain ⟨h1, _⟩ := of_pinsAt hp
      rw [z] at h1
      exact ky.nW (List.mem_singleton.mp h1 ▸ hb)
    · obtain ⟨rfl, I2⟩ := hro
      obtain ⟨e1, _⟩ := I2.pin (S, seqObj "list" #[vb, kb] cc) (List.mem_append_right _ (List.mem_append_right _ pS))
      have I3 := (inv_out1 I.ok.hd I.ok.frames I2).unpinned
      show wpAny _ X.A.in1 (updateSeq S (fun _ => #[]) >>= _) _ _ _
      refine wpAny_bind ?_
      refine wpAny_updateSeq e1 rfl (wpAny_bind (wpAny_letGo (wpAny_pure ?_)))
      obtain ⟨g1, g2, g3, g4, g5, g6⟩ := ky.okW
      exact hR _ H vb xb (I3.turned (it := S) (t' := s1.toks) (fun b o hb e => (Heap.get?_update_other _ _ (Ne.symm hb)).trans e) g1 g2 g4 g5 g6) kk rx fx
  | succ n ih =>
    intro i s H vb kb xb yb d kd cc hn hi I kk st ky hF hS rx ry fx fy hm
    have hlt : i + 1 < ds.length := by omega
    obtain ⟨yg, _⟩ := y (i + 1) H (kk.k.imp fun _ z => z.elim) kk.t
    obtain ⟨go, gst⟩ := yg _ (List.getElem?_eq_getElem hlt)
    rw [List.drop_eq_getElem_cons hlt] at hm
    obtain ⟨kx, hk1, hal, hm⟩ := minKL_cons hm
    refine codeAny_builtin F.entry_min_loop ?_
    rw [Around.under_plainId F.plain_min_loop _]
    show wpAny _ X.A.in1 (seqItems? (.ref S) >>= _) _ _ s
    refine wpAny_bind (wpAny_seqItems hS rfl ?_)
    show wpAny _ X.A.in1 (tryCatch (pyNext (.ref it)) _ >>= _) _ _ s
    refine wpAny_bind (wpAny_tryCatch (ky_item KC.calm T htg I st ky go hS hF wl_obj not_cell_lm (fun r s1 Φ h k => wp_after h k) fun u x H' s1 I1 ru yx st1 ky1 hS1 hF1 => ?_))
    obtain ⟨k1, f1⟩ := gst x H' yx
    have fx1 : Fz X.K (Pr c σa σ) H' x ds[i + 1] := f1 _ fun a z => .inl z
    have Zi := (Z1.kp kk).kp k1
    have hco1 : H' c' = some (LamX.CodeO c' q) := (kk.trans k1).k.oth c' _ hco (fun z => z) LamX.codeO_ne
    show wpAny _ X.A.in1 (tryCatch (holding [u] (call (.ref f) [u])) _ >>= _) _ _ _
    refine wpAny_bind (wpAny_tryCatch (wpAny_holding (ky_key (K := X.K) (it := it) (tn := tn) (i := i) KC.room KC.sc KC.nd I1 ky1 (fun b hb => T.obj _ _ st1 b hb) hS1 wl_obj hF1 hco1 (KC.bind _ _ _ _ _ _) (fun A s H env he hr => by subst he; exact KC.body A s H q _ f c' hr) ru Zi hfr fx1 hk1 fun v w H5 s5 I5 k5 rv fv ky5 hI5 hS5 hF5 => ?_)))
    have st5 : tn (i + 1 + 1) s5.heap := T.keep _ _ _ st1 hI5
    have fy5 : Fz X.K (Pr c σa σ) H5 yb kd := (fy.keep0 k1.k).keep0 k5.k
    obtain ⟨as1, rd1⟩ := reads1 (K := X.K) I5 rv fv
    obtain ⟨as2, rd2⟩ := reads1 (K := X.K) I5 ry fy5
    obtain ⟨hA, hdp⟩ := al2_ok hal
    show wpAny _ X.A.in1 (tryCatch (holding [u, v] (richCompare .Lt v kb >>= _)) _ >>= _) _ _ _
    have hroom : X.A.in1.units + min kx.depth kd.depth < cLine := by
      have h1 := (Room.in1 (k := k + 1) KC.room).un
      have h2 : PyData.depthAll [kx, kd] ≤ 60 := hdp
      have h3 : kx.depth ≤ PyData.depthAll [kx, kd] := by
        simp only [PyData.depthAll]
        omega
      omega
    refine wpAny_bind (wpAny_tryCatch (wpAny_holding (wpAny_bind (rcLt_alike kx kd X.A.in1 s5 v kb as1 as2 rd1 rd2 (hA.1 _ (by simp) _ (by simp)) (hA.2 _ (by simp)) hroom X.prog X.w _ _ ?_))))
    refine wpAny_bind (wpAny_holding (wpAny_truthy_bool ?_))
    refine wpAny_bind (wpAny_letGo (wpAny_pure ?_))
    obtain ⟨g1, g2, g3, g4, g5, g6⟩ := ky5.okW
    rcases hm with ⟨hb, hm⟩ | ⟨hb, hm⟩
    · rw [hb]
      simp only [if_true]
      refine wpAny_bind ?_
      refine wpAny_updateSeq hS5 rfl (wpAny_bind (wpAny_letGo ?_))
      rw [hname]
      have I6 := I5.turned (it := S) (t' := s5.toks) (h' := s5.heap.update S (Obj.mapSeq fun _ => #[u, v])) (fun b o hb e => (Heap.get?_update_other _ _ (Ne.symm hb)).trans e) g1 g2 g4 g5 g6
      obtain ⟨c2, hc2⟩ : ∃ c2, (s5.heap.update S (Obj.mapSeq fun _ => #[u, v])).get? S = some (seqObj "list" #[u, v] c2) := ⟨_, get?_update_seq hS5 fun _ => #[u, v]⟩
      refine wpAny_pure ⟨plainId_quiet F.plain_min_loop _, ih (i + 1) _ H5 u v x w ds[i + 1] kx c2 (by omega) hlt I6 ((kk.trans k1).trans k5) (T.keep _ _ _ st5 fun b hb o e => ?_) ky5 ?_ hc2 ru rv (fx1.keep0 k5.k) fv hm⟩
      · exact (Heap.get?_update_other _ _ (fun z : S = b => ky5.nW (by rw [z]; exact hb))).trans e
      · exact (Heap.get?_update_other _ _ (Ne.symm ky5.ne)).trans hF5
    · rw [hb]
      simp only [Bool.false_eq_true, if_false]
      refine wpAny_bind (wpAny_letGo ?_)
      rw [hname]
      exact wpAny_pure ⟨plainId_quiet F.plain_min_loop _, ih (i + 1) s5 H5 vb kb xb yb d kd cc (by omega) hlt I5 ((kk.trans k1).trans k5) st5 ky5 hF5 hS5 rx ry ((fx.keep0 k1.k).keep0 k5.k) fy5 hm⟩
end
end DL
namespace DL
open PySem PySem.Spec PyProof.Rows L2 PySem.W
theorem yl_later {K : Fr} {P inn : Pd} {ts : List Addr} {H1 H2 : Hp} {J : It} {ds : List PyData} (y : Yl K P inn ts H1 J ds) (k : Keep P0 H1 H2) : Yl K P inn ts H2 J ds := fun j H3 k3 t => by
  obtain ⟨yg, ys⟩ := y j H3 ((k.any (P := inn)).trans k3 fun a z => .inl z) t
  refine ⟨fun d hd => ?_, ys⟩
  obtain ⟨go, st⟩ := yg d hd
  refine ⟨go, fun x H4 z => ?_⟩
  obtain ⟨kp, f⟩ := st x H4 z
  exact ⟨kp, fun P' hp => f P' fun a z => (hp a z).imp id fun q => k.fresh q⟩
theorem min_key_args : (toString "min" ++ toString ".loop" : String) = "min.loop" := by decide
section
variable {X : Cx} {σ : L2.St} {pins : List (Addr × Obj)}
theorem mk_first {tg : Expr} {J : It} {fp : List Addr} {it S f c' : Addr} {tn : Nat → Heap → Prop} {k j : Nat} {params : Arguments} {body : Expr} {scope : Scope} {a q : Str} {pm ctv : Value} {c : RC} {σa : AE} {fe : AE → Rs AV} {H : Hp} {s : Shared} {ds : List PyData} {ls : List Nat} {r : PyData} {R : Result → Shared → Prop} {cc : Nat} (KC : KyC X k params body scope a j fe)
    (T : Turn X.prog X.w X.K tg J fp it tn) (htg : ∀ it u, letOwnedTupleGo tg it u = pure ()) (Z1 : Rst X.K c H σa σ) (hco : H c' = some (LamX.CodeO c' q)) (hfr : free1 σa j = true) (y : Yl X.K (Pr c σa σ) (Mu (lend ls σa) σ) c.tabs H J ds) (kw : List (Str × Value))
    (I : Inv X pins σ H s) (st : tn 0 s.heap) (ky : KyOk X pins H fp S f) (hF : s.heap.get? f = some (lmObj X params body scope pm c' ctv)) (hS : s.heap.get? S = some (seqObj "list" #[] cc)) (hm : minKD (kfD fe (wipeA σa [j]) j) ds = .ok r)
    (hR : ∀ s' H' u x, Inv X pins σ H' s' → Kp c.tabs H H' → RelV x u → Fz X.K (Pr c σa σ) H' x r → R (.ok (.ret u)) s') : codeAny (model X.prog X.w) X.A (.builtin "min.loop" ⟨[.ref it, .ref f, .ref S], kw⟩) R s := by
  cases ds with
  | nil => cases hm
  | cons d0 ds =>
    obtain ⟨kd, hk1, hm⟩ := bind_ok (show Rs.bind (kfD fe (wipeA σa [j]) j d0) (fun k => minKL (kfD fe (wipeA σa [j]) j) d0 k ds) = .ok r from hm)
    obtain ⟨yg, _⟩ := y 0 H (Keep.refl _ _) Z1.tab
    obtain ⟨go, gst⟩ := yg d0 rfl
    refine codeAny_builtin F.entry_min_loop ?_
    rw [Around.under_plainId F.plain_min_loop _]
    show wpAny _ X.A.in1 (seqItems? (.ref S) >>= _) _ _ s
    refine wpAny_bind (wpAny_seqItems hS rfl ?_)
    show wpAny _ X.A.in1 (tryCatch (pyNext (.ref it)) _ >>= _) _ _ s
    refine wpAny_bind (wpAny_tryCatch (ky_item KC.calm T htg I st ky go hS hF wl_obj not_cell_lm (fun r s1 Φ h k => wp_after h k) fun u x H' s1 I1 ru yx st1 ky1 hS1 hF1 => ?_))
    obtain ⟨k1, f1⟩ := gst x H' yx
    have fx1 : Fz X.K (Pr c σa σ) H' x d0 := f1 _ fun a z => .inl z
    have Zi := Z1.kp k1
    have hco1 : H' c' = some (LamX.CodeO c' q) := k1.k.oth c' _ hco (fun z => z) LamX.codeO_ne
    show wpAny _ X.A.in1 (tryCatch (holding [u] (call (.ref f) [u])) _ >>= _) _ _ _
    refine wpAny_bind (wpAny_tryCatch (wpAny_holding (ky_key (K := X.K) (it := it) (tn := tn) (i := 0) KC.room KC.sc KC.nd I1 ky1 (fun b hb => T.obj _ _ st1 b hb) hS1 wl_obj hF1 hco1 (KC.bind _ _ _ _ _ _) (fun A s H env he hr => by subst he; exact KC.body A s H q _ f c' hr) ru Zi hfr fx1 hk1 fun v w H5 s5 I5 k5 rv fv ky5 hI5 hS5 hF5 => ?_)))
    have st5 : tn (0 + 1) s5.heap := T.keep _ _ _ st1 hI5
    obtain ⟨g1, g2, g3, g4, g5, g6⟩ := ky5.okW
    show wpAny _ X.A.in1 (updateSeq S (fun _ => #[u, v]) >>= _) _ _ _
    refine wpAny_bind ?_
    refine wpAny_updateSeq hS5 rfl ?_
    rw [min_key_args]
    have I6 := I5.turned (it := S) (t' := s5.toks) (h' := s5.heap.update S (Obj.mapSeq fun _ => #[u, v])) (fun b o hb e => (Heap.get?_update_other _ _ (Ne.symm hb)).trans e) g1 g2 g4 g5 g6
    obtain ⟨c2, hc2⟩ : ∃ c2, (s5.heap.update S (Obj.mapSeq fun _ => #[u, v])).get? S = some (seqObj "list" #[u, v] c2) := ⟨_, get?_update_seq hS5 fun _ => #[u, v]⟩
    refine wpAny_pure ⟨plainId_quiet F.plain_min_loop _, mk_loop (pm := pm) (ctv := ctv) KC T htg Z1 hco hfr y kw hR _ 0 _ H5 u v x w d0 kd c2 rfl (by simp) I6 (k1.trans k5) (T.keep _ _ _ st5 fun b hb o e => ?_) ky5 ?_ hc2 ru rv (fx1.keep0 k5.k) fv hm⟩
    · exact (Heap.get?_update_other _ _ (fun z : S = b => ky5.nW (by rw [z]; exact hb))).trans e
    · exact (Heap.get?_update_other _ _ (Ne.symm ky5.ne)).trans hF5
theorem de_minK {W : WX} {c P : Addr} {k j : Nat} {params : Arguments} {body iter : Expr} {scope : Scope} {a : Str} {fe : AE → Rs AV} {it : AE → Rs (List PyData)} {ls : List Nat} {p pos lpos kpos : Pos} (hg : Gl X "min") (hm : X.mg "min" = none) (KC : KyC X k params body scope a j fe) (TB : GxR.TabB X.base X.mg c P) (hP : P ∈ TabsOf X.K) (hcode : X.env.code = .ref c)
    (hdef : defaultsOf params X.env = ([], [])) (hi : DV X W (.Name "_" lpos) iter it ls) (he : backTo pos (starEach [iter] X.env) = (false, eval iter X.env) :: backTo pos (starEach [] X.env) := by rfl) (hpl : (backTo pos (starEach [iter] X.env)).any (·.1) = false := by rfl) :
    DE X W (.Call (.Name "min" p) [iter] [⟨some (Str.ofString "key"), .Lambda params body scope lpos, kpos⟩] pos) (eMinK it j fe) := by
  refine ⟨fun pins s σ H Q I h => ?_⟩
  obtain ⟨c0, σa, Z, q⟩ := h
  have hfree : ∀ y ∈ scope.names, y.2 = .free → ∃ c, X.env.cells.lookup y.1 = some c := fun y hy e => by
    rcases KC.sc.free y hy e with k | k
    · exact I.ok.has _ (.inl k)
    · exact I.ok.has _ (.inr k)
  refine wpAny_Call_Name_kw (ld_blt I hg hm boot_min ?_)
  refine PyProof.Rows.callWith_kw ?_ he hpl rfl rfl
  rw [he]
  refine Calls.spliced_cons (thn (hi.run pins s σ H (fun J H1 => ∃ ds, Kp c0.tabs H H1 ∧ Yl X.K (Pr c0 σa σ) (Mu (lend ls σa) σ) c0.tabs H1 J ds ∧ Go X.K W c0 σ H (if free1 σa j = true then (nox (minKD (kfD fe (wipeA σa [j]) j) ds)).bind fun r => .ok (dv r) else .st : Rs AV) fun av => ∀ v H', Kp c0.tabs H H' → AvR X.K c0 σa σ H H' av v → Q v H') I ⟨c0, σa, Z, (Go.bind q).mono fun ds q J H1 k1 y => ⟨ds, k1, y, q⟩⟩) fun v s1 ⟨J, H1, I1, lat, ds, k1, y, q⟩ => Calls.spliced_nil ?_)
  have hfr : free1 σa j = true := by
    by_cases hc : free1 σa j = true
    · exact hc
    · rw [if_neg hc] at q; exact q.elim
  rw [if_pos hfr] at q
  obtain ⟨r, er, q⟩ : ∃ r, minKD (kfD fe (wipeA σa [j]) j) ds = .ok r ∧ Go X.K W c0 σ H (.ok (dv r) : Rs AV) fun av => ∀ v H', Kp c0.tabs H H' → AvR X.K c0 σa σ H H' av v → Q v H' := by
    cases el : minKD (kfD fe (wipeA σa [j]) j) ds with
    | st => rw [el] at q; exact q.elim
    | ex e => rw [el] at q; exact q.elim
    | ok l => rw [el] at q; exact ⟨l, rfl, q⟩
  have q : ∀ v H', Kp c0.tabs H H' → Fz X.K (Pr c0 σa σ) H' v r → Q v H' := q
  have Z1 := Z.kp k1
  have hT : TabC H1 P := Z1.tab P (by rw [Z1.tabE]; exact hP)
  refine kwAll_cons (lm_make I1 TB hcode hT hdef hfree fun f c' qn pm ctv H2 s2 I2 td kp hf fpf hco hsz => kwAll_nil ?_)
  have k2 : Kp c0.tabs H1 H2 := kp_tabbed Z1.tab hT td
  have Z2 := Z1.kp k2
  show wpAny _ _ (call (.builtin "min") [v] [(Str.ofString "key", .ref f)]) _ _ _
  refine PyProof.Rows.kmk_tree F.kind_min F.plain_min F.entry_min (PyProof.Rows.kmk_min_key _ _) ?_
  show wpAny _ X.A.in1 (Builtin.Builtins.bindParams "min" ["key", "default"] 0 ⟨[], [(Str.ofString "key", .ref f)]⟩ >>= _) _ _ _
  refine wpAny_bind (wpAny_of_eq (show Builtin.Builtins.bindParams "min" ["key", "default"] 0 ⟨[], [(Str.ofString "key", .ref f)]⟩ = pure [some (.ref f), none] from rfl) ?_)
  refine wpAny_bind (wpAny_pure ?_)
  refine wpAny_bind (lat P H2 s2 _ _ I2 hT td kp fun ita fp tn s3 I3 T st3 fp3 kp3 => ?_)
  refine wpAny_bind (wpAny_newObj_type ?_)
  rw [min_key_args]
  have hf3 := kp3 _ _ hf
  refine wpAny_pure ⟨plainId_quiet F.plain_min_loop _, mk_first (c := c0) (ls := ls) KC T (fun _ _ => rfl) Z2 hco hfr (yl_later y k2.k) _ (I3.kept (t' := s3.toks) fun b o e => Heap.get?_push_of_some _ e) (T.keep _ _ _ st3 fun b _ o e => Heap.get?_push_of_some _ e) ⟨fun b hb => (fp3 b hb).1, I3.fpOk (Nat.le_refl _) (I3.hok.fresh (Nat.le_refl _)), fpf, fun z => ?_, fun z => ?_, ?_⟩ (Heap.get?_push_of_some _ hf3) (Heap.get?_push_size _ rfl) er fun s' H' u x I' k' rx fx => ⟨x, H', I', rx, q x H' ((k1.trans k2).trans k') fx⟩⟩
  · obtain ⟨o, e, _⟩ := T.obj _ _ st3 _ z
    exact Nat.lt_irrefl _ (Heap.lt_size e)
  · exact Nat.lt_irrefl _ (Nat.lt_of_lt_of_le (Heap.lt_size hf) (fp3 f z).2)
  · exact Nat.ne_of_lt (Heap.lt_size hf3)
end
end DL
namespace DL
open PySem PySem.Spec PyProof.Rows L2
theorem meets_enumT (l : Addr) (items : Array Value) (n : Nat) (dct : Option Addr) (sl : Array (Option Value)) :
    Meets (Builtin.«enumerate.__new__» ⟨[.type "enumerate", .ref l], []⟩) (fun _ R s => s.heap.get? l = some { cls := .type "tuple", dict := dct, data := .seq items n, slots := sl } ∧
      R (.ok (.ret (.ref (s.heap.push { cls := .type "tuple_iterator", data := .fields #[.ref l, .int 0 0] }).objs.size)))
        { s with heap := (s.heap.push { cls := .type "tuple_iterator", data := .fields #[.ref l, .int 0 0] }).push { cls := .type "enumerate", data := .fields #[.none, .bool false, .ref s.heap.objs.size, rawInt 0, .none, .none] } }) :=
  .of_wp fun prog w A R s h => by
    obtain ⟨hp, g, d, tk, os⟩ := s; obtain ⟨hl, h⟩ := h
    have hsub := sub_enumerate
    have hL : Heap.IsTuple (Shared.heap ⟨hp, g, d, tk, os⟩) l items := ⟨_, hl, rfl, n, rfl⟩
    wp_walk using AutoSeq1.wpAny_loadPart' hl
    refine wpAny_stack_any fun st => wpAny_pure ?_
    split
    · rename_i c _ _ _ _ _
      cases (c == Value.type "enumerate")
      · wp_walk using AutoSeq1.wpAny_loadPart' hl, wpAny_pyIter_tuple hL
        exact ⟨_, rfl, h⟩
      · wp_walk using AutoSeq1.wpAny_loadPart' hl, wpAny_pyIter_tuple hL
        exact ⟨_, rfl, h⟩
    · wp_walk using AutoSeq1.wpAny_loadPart' hl, wpAny_pyIter_tuple hL
      exact ⟨_, rfl, h⟩
section
variable {prog : Program} {w : World} {A : Around} {E : Value → Shared → Prop} {s : Shared}
theorem call_enumT {l : Addr} {items : Array Value} {Q : Value → Shared → Prop} (hL : s.heap.IsTuple l items)
    (h : ∀ h', IsEnum h' (s.heap.objs.size + 1) s.heap.objs.size 0 .none → h'.IsTupleIter s.heap.objs.size l 0 → h'.objs.size = s.heap.objs.size + 2 →
      (∀ b o, s.heap.get? b = some o → h'.get? b = some o) → Q (.ref (s.heap.objs.size + 1)) { s with heap := h' }) :
    wpAny (model prog w) A (call (.type "enumerate") [.ref l]) Q E s := by
  obtain ⟨⟨c, dct, dt, sl⟩, hl, hc, n, hd⟩ := hL
  replace hc : c = .type "tuple" := hc
  replace hd : dt = .seq items n := hd
  subst hc hd
  refine callType_new F.called_enumerate (by decide) (F.typeCall_enumerate_1 _) (F.newCall_enumerate_1 _) (fun obj => F.args_object_init_2 obj _) F.entry_enumerate_new
    (meets_enumT l items n dct sl) ⟨hl, ?_⟩
  have hz : (s.heap.push { cls := .type "tuple_iterator", data := .fields #[.ref l, .int 0 0] }).objs.size = s.heap.objs.size + 1 := Heap.size_push ..
  show _ ∧ _
  rw [hz]
  have he : IsEnum ((s.heap.push { cls := .type "tuple_iterator", data := .fields #[.ref l, .int 0 0] }).push
      { cls := .type "enumerate", data := .fields #[.none, .bool false, .ref s.heap.objs.size, rawInt 0, .none, .none] }) (s.heap.objs.size + 1) s.heap.objs.size 0 .none := by
    have := Heap.get?_push_size (s.heap.push { cls := .type "tuple_iterator", data := .fields #[.ref l, .int 0 0] })
      (o := { cls := .type "enumerate", data := .fields #[.none, .bool false, .ref s.heap.objs.size, rawInt 0, .none, .none] }) rfl
    rw [hz] at this; exact this
  refine ⟨⟨_, he, rfl⟩, h _ he ⟨_, Heap.get?_push_of_some _ (Heap.get?_push_size _ rfl), rfl, rfl⟩ (by rw [Heap.size_push, hz]) fun b o x => Heap.get?_push_of_some _ (Heap.get?_push_of_some _ x)⟩
end
theorem drawsT {prog : Program} {w : World} {A : Around} (hh : A.handled = none) (it l : Addr) (hne : l ≠ it) (items : Array Value) :
    Draws prog w A it [it, l] items.size (fun i v => items[i]? = some v) (fun i h => h.IsTupleIter it l i ∧ h.IsTuple l items) where
  live := fun _ _ st => let ⟨o, ho, _⟩ := st.1; ⟨o, ho⟩
  frame := fun _ _ _ st hk => ⟨st.1.at fun o e => hk it (by simp) o e, let ⟨o, e, r⟩ := st.2; ⟨o, hk l (by simp) o e, r⟩⟩
  item := fun i s Q E hi st hQ => RZ.nextOf_tuple_item st.1 st.2 (x := items[i]) (by simp [hi]) fun h' hit' hs' => hQ _ h' s.toks (by simp [hi]) ⟨hit', let ⟨o, e, r⟩ := st.2; ⟨o, (hs'.2 l hne).trans e, r⟩⟩ hs'
  done := fun s Q E st hE => RZ.nextOf_tuple_end hh st.1 st.2 (by simp) hE
/-- the tuple at a, each item in a new pair -/
def IteT (K : PySem.W.Frag) (a : Addr) : It :=
  ⟨fun i H => ∃ (xs : List V) (x : V), SqT K H a xs ∧ xs[i]? = some x, fun i H v H' => ∃ T x, v = .ref T ∧ H T = none ∧ H' = upd H T (.tup [.int (i : Nat), x]) ∧ ∀ xs, SqT K H a xs → xs[i]? = some x, fun i H => ∃ xs : List V, SqT K H a xs ∧ xs.length ≤ i⟩
theorem cls_ne {h : Heap} {x y : Addr} {o o' : Obj} {n n' : String} (e : h.get? x = some o) (e' : h.get? y = some o') (c : o.cls = .type n) (c' : o'.cls = .type n') (hn : n ≠ n') : x ≠ y := fun z => by
  rw [z, e'] at e
  cases e
  rw [c] at c'
  injection c' with c'
  exact hn c'
theorem turn_enumT {P : Program} {w : World} {K : PySem.W.Frag} {elts : List Expr} {kk : Nat} {tpos : Pos} (a e it : Addr) :
    Turn P w K (.Tuple elts kk tpos) (IteT K a) [e, it] e (fun i h => (∃ old, IsEnum h e it ((i : Nat) : Int) old) ∧ h.IsTupleIter it a i ∧ e ≠ it) where
  mem := by simp
  obj := fun i h st b hb => by
    obtain ⟨⟨old, he⟩, ⟨o, ho, hc, hd⟩, _⟩ := st
    have e' : b = e ∨ b = it := by simpa using hb
    rcases e' with z | z
    · rw [z]; exact ⟨_, he, fun v q => nomatch q⟩
    · rw [z]; exact ⟨o, ho, fun v q => by rw [hd] at q; cases q⟩
  keep := fun i h h' st k => let ⟨⟨old, he⟩, hi, hne⟩ := st; ⟨⟨old, k e (by simp) _ he⟩, hi.at fun o q => k it (by simp) o q, hne⟩
  item := by
    intro X hP hw hK hc i pins s σ H E I hf st hg
    subst hP hw hK
    obtain ⟨⟨old, he⟩, hit, hne⟩ := st
    obtain ⟨xs, x, hq, hx⟩ := hg
    obtain ⟨its, rv, p, hz⟩ := I.tuple hq
    obtain ⟨u, hu, ru⟩ := rv.get hx
    have hel : e < s.heap.objs.size := Heap.lt_size he
    obtain ⟨oi, hoi, hci, _⟩ := id hit
    obtain ⟨oa, hoa, hca, _⟩ := id p
    have hil : it < s.heap.objs.size := Heap.lt_size hoi
    have hai : a ≠ it := cls_ne hoa hoi hca hci (by decide)
    have hae : e ≠ a := cls_ne he hoa rfl hca (by decide)
    have hlt : i < its.toArray.size := by
      have := (List.getElem?_eq_some_iff.mp hu).1
      simpa using this
    refine wpAny_pyNext_enum_itemD (drawsT (A := X.A.in1) (I.ok.hd hc) it a hai its.toArray) he ⟨hit, (show s.heap.IsTuple a its.toArray from p)⟩ hlt hne (by simp [hne, hae]) fun u' h' tk hu' ho hs' hT hsz hk => ?_
    have eu : u' = u := by
      have h1 : its.toArray[i]? = some u := by simpa using hu
      rw [h1] at hu'
      exact (Option.some.inj hu').symm
    subst eu
    refine ⟨_, rfl, wpAny_letOwnedTupleGo_enum (s := { s with heap := h', toks := tk + 1 }) ho fun h'' he' sb => ?_⟩
    have hT2 : h''.get? s.heap.objs.size = some { cls := .type "tuple", data := .seq #[.int i tk, u'] } := (sb.2 _ (Nat.ne_of_gt hel)).trans hT
    have new : ObjOk X.prog X.w (upd H s.heap.objs.size (.tup [.int (i : Nat), x])) h'' s.heap.objs.size (.tup [.int (i : Nat), x]) :=
      ⟨by show 2 ≤ sizeLine; decide, [.int i tk, u'], .cons ⟨_, rfl⟩ (.cons ru .nil), ⟨_, hT2, rfl, _, rfl⟩⟩
    have I1 : Inv X pins σ (upd H s.heap.objs.size (.tup [.int (i : Nat), x])) { s with heap := h'', toks := tk + 1 } :=
      I.turnedNew (ch := [e, it]) (fun b ob hb q => (sb.2 b (fun z => hb (by simp [z]))).trans (hk b ob (fun z => hb (by simp [z])) (fun z => hb (by simp [z])) q)) hf (Nat.le_refl _) new
    refine ⟨.ref s.heap.objs.size, _, I1, rfl, ⟨_, x, rfl, I.hok.fresh (Nat.le_refl _), rfl, fun ys hy => by rw [I.tuple_inj hy hq]; exact hx⟩, ⟨⟨u', ?_⟩, hs'.1.at fun o q => (sb.2 it (Ne.symm hne)).trans q, hne⟩, fun b hb => ?_⟩
    · have e1 : ((i + 1 : Nat) : Int) = (i : Int) + 1 := by omega
      rw [e1]; exact he'
    · have hb' : b < s.heap.objs.size := by
        have e' : b = e ∨ b = it := by simpa using hb
        rcases e' with z | z
        · rw [z]; exact hel
        · rw [z]; exact hil
      rw [upd_ne (Nat.ne_of_lt hb')]
      exact (hf b hb).1
  done := by
    intro X hP hw hK hc i pins s σ H E I hf st hg
    subst hP hw hK
    obtain ⟨⟨old, he⟩, hit, hne⟩ := st
    obtain ⟨xs, hq, hx⟩ := hg
    obtain ⟨its, rv, p, hz⟩ := I.tuple hq
    obtain ⟨f0, f1, f2, f3, f4, f5⟩ := hf it (by simp)
    obtain ⟨oi, hoi, hci, _⟩ := id hit
    obtain ⟨oa, hoa, hca, _⟩ := id p
    have hai : a ≠ it := cls_ne hoa hoi hca hci (by decide)
    have hl := rv.length
    have hge : its.toArray.size ≤ i := by simp; omega
    have D : Draws X.prog X.w X.A.in1 it [it, a] i (fun j v => its.toArray[j]? = some v ∧ False) (fun j h => j = i ∧ h.IsTupleIter it a i ∧ h.IsTuple a its.toArray) := {
      live := fun _ _ st => let ⟨o, ho, _⟩ := st.2.1; ⟨o, ho⟩
      frame := fun _ _ _ st hk => ⟨st.1, st.2.1.at fun o e => hk it (by simp) o e, let ⟨o, e, r⟩ := st.2.2; ⟨o, hk a (by simp) o e, r⟩⟩
      item := fun j s Q E hj st hQ => absurd st.1 (Nat.ne_of_lt hj)
      done := fun s Q E st hE => RZ.nextOf_tuple_end (show X.A.in1.handled = none from I.ok.hd hc) st.2.1 st.2.2 (Array.getElem?_eq_none hge) hE }
    exact wpAny_pyNext_enum_endD D he ⟨rfl, hit, (show s.heap.IsTuple a its.toArray from p)⟩ fun h' eb => ⟨rfl, I.turned (t' := s.toks) (fun b o hb q => eb b o hb q) f0 f1 f3 f4 f5⟩
  self := fun A i s Q E st h => let ⟨⟨_, he⟩, _⟩ := st; wpAny_pyIter_enum he h
def iEnumT (K : PySem.W.Frag) (ta : TA) : TI := fun σ H R => ta σ H fun vs H1 => ∃ a xs, vs = [.ref a] ∧ SqT K H1 a xs ∧ R (IteT K a) H1
theorem pi_enumT {X : Cx} {e : Expr} {ta : TA} {p pos tpos : Pos} {elts : List Expr} {kk : Nat} (hg : Gl X "enumerate") (hm : X.mg "enumerate" = none) (ha : PA X [e] ta) (hs : starEach [e] X.env = [(false, eval e X.env)] := by rfl) :
    PI X (.Tuple elts kk tpos) (.Call (.Name "enumerate" p) [e] [] pos) (iEnumT X.K ta) := by
  refine ⟨fun pins s σ H R I h => ?_⟩
  refine Call_ (ld_blt I hg hm boot_enumerate (PyProof.Rows.callWith_type1 (thn (ha.run pos pins s σ H _ I h) fun us s1 ⟨vs, H1, I1, r1, q1⟩ => ?_) hs rfl))
  obtain ⟨a, xs, ex, hq, q⟩ := q1
  subst ex
  cases r1 with
  | cons r rr =>
    cases rr
    cases r
    obtain ⟨its, rv, p', hz⟩ := I1.tuple hq
    refine call_enumT (show s1.heap.IsTuple a its.toArray from p') fun h' he hit hsz hk => wpAny_pyIter_enum he ?_
    have I2 : Inv X pins σ H1 { s1 with heap := h' } := I1.kept (t' := s1.toks) hk
    refine ⟨s1.heap.objs.size + 1, [s1.heap.objs.size + 1, s1.heap.objs.size], _, _, H1, rfl, I2, turn_enumT a (s1.heap.objs.size + 1) s1.heap.objs.size, ⟨⟨.none, he⟩, hit, Nat.succ_ne_self _⟩, fun b hb => ?_, q⟩
    have e' : b = s1.heap.objs.size + 1 ∨ b = s1.heap.objs.size := by simpa using hb
    have hle : s1.heap.objs.size ≤ b := by
      rcases e' with z | z
      · rw [z]; exact Nat.le_add_right _ _
      · rw [z]; exact Nat.le_refl _
    exact I1.fpOk hle (I1.hok.fresh hle)
def enumRA : PyData → Rs (List PyData)
  | .list x => .ok (enumD 0 x)
  | .tuple x => .ok (enumD 0 x)
  | _ => .st
def iEnA (ls : List Nat) (fa : AE → Rs AV) : AE → Rs (List PyData) := fun s => (lsFor fa ls s).bind fun av => (gt s av).bind enumRA
theorem yl_enumT {K : Fr} {P inn : Pd} {ts : List Addr} {H1 : Hp} {a : Addr} {xs : List V} {ds : List PyData} (s : SqT K H1 a xs) (f1 : FzA K P H1 xs ds) (hi : ∀ a, inn a → P a) : Yl K P inn ts H1 (IteT K a) (enumD 0 ds) := fun j H2 k t => by
  have e2 : SqT K H2 a xs := sqt_keep s k
  refine ⟨fun d hd => ?_, fun hl => ⟨xs, e2, ?_⟩⟩
  · obtain ⟨y, hy, rfl⟩ := enumD_get hd
    obtain ⟨x, hx, fx⟩ := f1.get hy
    refine ⟨⟨xs, x, e2, hx⟩, fun v H3 z => ?_⟩
    obtain ⟨T, x', rfl, hT, rfl, hx'⟩ := z
    have ex : x' = x := Option.some.inj ((hx' xs e2).symm.trans hx)
    subst ex
    have kn : Kp ts H2 (upd H2 T (.tup [.int (j : Nat), x'])) := Kp.new t hT
    refine ⟨kn, fun P' hp => ?_⟩
    have a1 : Fz K P' H2 x' y := fx.mono (k.imp hi) hp
    refine .tup (xs := [.int (j : Nat), x']) (.inl (.inl upd_same)) ?_
    rw [Nat.zero_add]
    exact .cons (.int _) (.cons (a1.keep0 kn.k) .nil)
  · rw [enumD_length] at hl
    rw [f1.length]
    omega
section
variable {X : Cx} {W : WX} {e : Expr} {elts : List Expr} {kk : Nat} {tpos pos p : Pos} {fa : AE → Rs AV} {ls : List Nat}
theorem di_enumA (hg : Gl X "enumerate") (hm : X.mg "enumerate" = none) (ha : DE X W e fa) (hs : starEach [e] X.env = [(false, eval e X.env)] := by rfl) :
    DI X W (.Tuple elts kk tpos) (.Call (.Name "enumerate" p) [e] [] pos) (iEnA ls fa) ls := pi_mono (pi_or (pi_enum hg hm (pa_cons ha pa_nil hs) hs) (pi_enumT hg hm (pa_cons ha pa_nil hs) hs)) fun σ H R ⟨c, σa, Z, q⟩ => by
  have q := go_ls (show Go X.K W c σ H ((lsFor fa ls σa).bind _) _ from q)
  cases ef : fa σa with
  | st => rw [ef] at q; exact q.elim
  | ex x => rw [ef] at q; exact .inl ⟨c, σa, Z, by rw [ef]; exact q⟩
  | ok av =>
    rw [ef] at q
    obtain ⟨hls, q⟩ := q
    obtain ⟨d, ed, q⟩ := go_gt (Go.bind q)
    cases d with
    | list l =>
      refine .inl ⟨c, σa, Z, ?_⟩
      rw [ef]
      intro v H1 k1 r1
      obtain ⟨a, xs, rfl, s, f1, na⟩ := seq_l Z k1 r1 hls ed
      exact ⟨a, xs, rfl, .inl (.inl s), q _ H1 k1 (yl_enum s f1 lend_rt na)⟩
    | tuple l =>
      refine .inr ⟨c, σa, Z, ?_⟩
      rw [ef]
      intro v H1 k1 r1
      obtain ⟨a, xs, rfl, s, f1⟩ := seq_t Z k1 r1 ed
      exact ⟨a, xs, rfl, s, q _ H1 k1 (yl_enumT s f1 lend_rt)⟩
    | _ => exact (show False from q).elim
end
end DL
namespace DL
open PySem PySem.Spec PyProof.Rows L2 PySem.W
def rPickF (K : Fr) (pick : PyData → List PyData → PyData) : List V → List V → Hp → VK → Prop := fun vs zs H Q => ∃ (a : Addr) (xs : List V) (w : V) (ds : List PyData), vs = [V.ref a] ∧ zs = [w] ∧ SqL K H a xs ∧ DpAll K H xs ds ∧ al2 ds = true ∧ (ds = [] → Q w H) ∧
  ∀ (x : PyData) (l : List PyData) (i : Nat) (v : V), ds = x :: l → xs[i]? = some v → ds[i]? = some (pick x l) → Q v H
section
variable {X : Cx} {k : Nat}
theorem cr_maxF (hc : X.calm = true) (hr : Room k X.A) : CallRK X (.builtin "max") [Str.ofString "default"] (rPickF X.K maxD) := by
  intro pins s σ H vs zs us ws Q I r rz h
  obtain ⟨a, xs, w, ds, rfl, rfl, hs, hd, ha, q0, q⟩ := h
  obtain ⟨its, rv, hl, _⟩ := I.list hs
  rw [Vals.ref1 r]
  obtain ⟨wv, rfl, rw0⟩ := vals1 rz
  obtain ⟨h1, h2⟩ := al2_ok ha
  obtain ⟨as, hra⟩ := Dp.readsAll I _ _ _ hd rv
  exact max_list_default (vs := its.toArray) (I.ok.hd hc) hl.isList hra h1 (by have := hr.un; omega) (fun e h' tk kp => ⟨w, H, I.kept kp, rw0, q0 e⟩) fun x l i v h' tk bs e hv rd kp => by
    subst e
    exact pick_end I rv hra h1 (fold_mem (f := fun y a => dataLt a y) l x) (fun i v a b => q x l i v rfl a b) (by simpa using hv) rd kp
theorem cr_minF (hc : X.calm = true) (hr : Room k X.A) : CallRK X (.builtin "min") [Str.ofString "default"] (rPickF X.K minD) := by
  intro pins s σ H vs zs us ws Q I r rz h
  obtain ⟨a, xs, w, ds, rfl, rfl, hs, hd, ha, q0, q⟩ := h
  obtain ⟨its, rv, hl, _⟩ := I.list hs
  rw [Vals.ref1 r]
  obtain ⟨wv, rfl, rw0⟩ := vals1 rz
  obtain ⟨h1, h2⟩ := al2_ok ha
  obtain ⟨as, hra⟩ := Dp.readsAll I _ _ _ hd rv
  exact min_list_default (vs := its.toArray) (I.ok.hd hc) hl.isList hra h1 (by have := hr.un; omega) (fun e h' tk kp => ⟨w, H, I.kept kp, rw0, q0 e⟩) fun x l i v h' tk bs e hv rd kp => by
    subst e
    exact pick_end I rv hra h1 (fold_mem (f := dataLt) l x) (fun i v a b => q x l i v rfl a b) (by simpa using hv) rd kp
end
def pickFD (pick : PyData → List PyData → PyData) : PyData → PyData → Option AV
  | .list [], e => some (dv e)
  | .list (x :: l), _ => if al2 (x :: l) = true then some (dv (pick x l)) else none
  | _, _ => none
/-- min, max of a list, e where it is empty -/
def ePickF (pick : PyData → List PyData → PyData) (g h : AE → Rs PyData) : AE → Rs AV := fun s => (g s).bind fun d => (h s).bind fun e => Rs.of (pickFD pick d e)
section
variable {X : Cx} {W : WX} {e d : Expr} {g h : AE → Rs PyData} {pos p kpos : Pos} {k : Nat}
theorem de_pickF {id : String} {x : Str} {pick : PyData → List PyData → PyData} (hp : ∀ x l, pick x l ∈ x :: l) (hcr : CallRK X (.builtin id) [Str.ofString "default"] (rPickF X.K pick)) (hg : Gl X x) (hm : X.mg x = none) (hv : bootBuiltins x = some (.builtin id)) (ha : DR X W e g) (hd : DF X W d h)
    (hn : x ≠ "__name__") (hdb : (x == ("__debug__" : Str)) = false) (he0 : starEach [e] X.env = (false, eval e X.env) :: starEach [] X.env := by rfl)
    (he : backTo pos (starEach (e :: []) X.env) = (false, eval e X.env) :: backTo pos (starEach [] X.env) := by rfl) (hpl : (backTo pos (starEach (e :: []) X.env)).any (·.1) = false := by rfl) :
    DE X W (.Call (.Name x p) [e] [⟨some (Str.ofString "default"), d, kpos⟩] pos) (ePickF pick g h) := pe_mono (pe_callBK (ks := [Str.ofString "default"]) hcr hg hm hv (pa_cons ha pa_nil he0) (pk_cons hd pk_nil) hn hdb he hpl rfl rfl rfl) fun σ H Q ⟨c, σa, Z, q⟩ =>
  ⟨c, σa, Z, (Go.bind q).mono fun d q v H1 k1 r1 => ⟨c, σa, Z.kp k1, ((Go.bind q).later k1).mono fun e q w H2 k2 r2 => by
  obtain ⟨av, ev, q⟩ := go_of q
  cases d with
  | list ds =>
    cases ds with
    | nil =>
      cases ev
      obtain ⟨a, xs, rfl, hl, fa⟩ := br_lst (r1.keep0 k2.k)
      cases fa
      exact ⟨a, [], w, [], rfl, rfl, .inl (.inl hl), .nil, rfl, fun _ => q _ H2 (k1.trans k2) r2, fun x l i v e => by cases e⟩
    | cons x l =>
      obtain ⟨hal, rfl⟩ := ite_some (show (if al2 (x :: l) = true then some (dv (pick x l)) else none) = some av from ev)
      obtain ⟨a, xs, rfl, hl, fa⟩ := br_lst (r1.keep0 k2.k)
      refine ⟨a, xs, w, x :: l, rfl, rfl, .inl (.inl hl), fa.dp, hal, fun e => (by cases e), fun x' l' i v e hv hi => ?_⟩
      cases e
      obtain ⟨v', hv', fv⟩ := fa.get hi
      have e2 : v' = v := Option.some.inj (hv'.symm.trans hv)
      subst e2
      exact q _ H2 (k1.trans k2) fv
  | _ => exact (show False by cases ev).elim⟩⟩
theorem de_maxF (hc : X.calm = true) (hr : Room k X.A) (hg : Gl X "max") (hm : X.mg "max" = none) (ha : DR X W e g) (hd : DF X W d h) (he0 : starEach [e] X.env = (false, eval e X.env) :: starEach [] X.env := by rfl)
    (he : backTo pos (starEach (e :: []) X.env) = (false, eval e X.env) :: backTo pos (starEach [] X.env) := by rfl) (hpl : (backTo pos (starEach (e :: []) X.env)).any (·.1) = false := by rfl) : DE X W (.Call (.Name "max" p) [e] [⟨some (Str.ofString "default"), d, kpos⟩] pos) (ePickF maxD g h) :=
  de_pickF (fun x l => fold_mem (f := fun y a => dataLt a y) l x) (cr_maxF hc hr) hg hm boot_max ha hd (by decide) (by decide) he0 he hpl
theorem de_minF (hc : X.calm = true) (hr : Room k X.A) (hg : Gl X "min") (hm : X.mg "min" = none) (ha : DR X W e g) (hd : DF X W d h) (he0 : starEach [e] X.env = (false, eval e X.env) :: starEach [] X.env := by rfl)
    (he : backTo pos (starEach (e :: []) X.env) = (false, eval e X.env) :: backTo pos (starEach [] X.env) := by rfl) (hpl : (backTo pos (starEach (e :: []) X.env)).any (·.1) = false := by rfl) : DE X W (.Call (.Name "min" p) [e] [⟨some (Str.ofString "default"), d, kpos⟩] pos) (ePickF minD g h) :=
  de_pickF (fun x l => fold_mem (f := dataLt) l x) (cr_minF hc hr) hg hm boot_min ha hd (by decide) (by decide) he0 he hpl
end
section
variable {prog : Program} {w : World} {A : Around} {E : Value → Shared → Prop} {s : Shared}
theorem maxT_or {t : Addr} {vs : Array Value} {ds : List PyData} {as : List Addr} {d : Value} {Q : Value → Shared → Prop} (hh : A.handled = none) (ht : s.heap.IsTuple t vs) (hr : ReadsAll s.heap vs.toList ds as) (ha : AlikeAll ds) (hu : A.units + 1 + PyData.depthAll ds < cLine)
    (q0 : ds = [] → ∀ h' tk, (∀ b o, s.heap.get? b = some o → h'.get? b = some o) → Q d { s with heap := h', toks := tk })
    (q1 : ∀ (y : PyData) (ys : List PyData) (i : Nat) v h' tk bs, ds = y :: ys → vs[i]? = some v → Reads h' v (maxD y ys) bs → (∀ b o, s.heap.get? b = some o → h'.get? b = some o) → Q v { s with heap := h', toks := tk }) : wpAny (model prog w) A (call (.builtin "max") [.ref t] [(Str.ofString "default", d)]) Q E s := by
  have len : vs.size = ds.length := readsAll_len hr
  refine call_max_walkD (iter_tupleW (A := A.in1) hh ht fun s2 e W st hfp hw hk => ⟨_, _, _, _, _, _, _, s.heap, (fun i j => dataLt (ds.getD j .none) (ds.getD i .none)), rfl, W, st, hfp, hw, hk, fun hz s' mv => ?_, fun hp => ⟨cmpIn_gt (A := A.in1) hr ha hu, fun v s' hP mv => ?_⟩⟩)
  all_goals obtain ⟨h', tk, rfl, hk'⟩ := moved_old e rfl mv
  · exact q0 (List.length_eq_zero_iff.mp (len.symm.trans hz)) h' tk hk'
  · obtain ⟨bs, rd, _⟩ := readsAll_atA hr _ v hP
    match ds, len with
    | [], len => exact absurd hp (by rw [len]; exact Nat.not_lt_zero _)
    | y :: ys, len =>
      have z := (argBest_fold (fun a b => dataLt b a) PyData.none y ys ys.length (Nat.le_refl _)).2
      rw [List.take_length] at z
      rw [show vs.size - 1 = ys.length by rw [len]; rfl] at rd
      exact q1 y ys _ v h' tk bs rfl hP (reads_keeps hk' (by unfold maxD; rw [← z]; exact rd)) hk'
end
def rPickFT (K : Fr) (pick : PyData → List PyData → PyData) : List V → List V → Hp → VK → Prop := fun vs zs H Q => ∃ (a : Addr) (xs : List V) (w : V) (ds : List PyData), vs = [V.ref a] ∧ zs = [w] ∧ SqT K H a xs ∧ DpAll K H xs ds ∧ al2 ds = true ∧ (ds = [] → Q w H) ∧
  ∀ (x : PyData) (l : List PyData) (i : Nat) (v : V), ds = x :: l → xs[i]? = some v → ds[i]? = some (pick x l) → Q v H
theorem cr_maxFT {X : Cx} {k : Nat} (hc : X.calm = true) (hr : Room k X.A) : CallRK X (.builtin "max") [Str.ofString "default"] (rPickFT X.K maxD) := by
  intro pins s σ H vs zs us ws Q I r rz h
  obtain ⟨a, xs, w, ds, rfl, rfl, hs, hd, ha, q0, q⟩ := h
  obtain ⟨its, rv, hl, _⟩ := I.tuple hs
  rw [Vals.ref1 r]
  obtain ⟨wv, rfl, rw0⟩ := vals1 rz
  obtain ⟨h1, h2⟩ := al2_ok ha
  obtain ⟨as, hra⟩ := Dp.readsAll I _ _ _ hd rv
  exact maxT_or (vs := its.toArray) (I.ok.hd hc) (show s.heap.IsTuple a its.toArray from hl) hra h1 (by have := hr.un; omega) (fun e h' tk kp => ⟨w, H, I.kept kp, rw0, q0 e⟩) fun x l i v h' tk bs e hv rd kp => by
    subst e
    exact pick_end I rv hra h1 (fold_mem (f := fun y a => dataLt a y) l x) (fun i v a b => q x l i v rfl a b) (by simpa using hv) rd kp
/-- max of a tuple, e where it is empty -/
def pickTD (pick : PyData → List PyData → PyData) : PyData → PyData → Option AV
  | .tuple [], e => some (dv e)
  | .tuple (x :: l), _ => if al2 (x :: l) = true then some (dv (pick x l)) else none
  | d, e => pickFD pick d e
def ePickT (pick : PyData → List PyData → PyData) (g h : AE → Rs PyData) : AE → Rs AV := fun s => (g s).bind fun d => (h s).bind fun e => Rs.of (pickTD pick d e)
theorem CallRK.or {X : Cx} {f : Value} {ks : List Str} {r r' : List V → List V → Hp → VK → Prop} (h : CallRK X f ks r) (h' : CallRK X f ks r') : CallRK X f ks fun vs zs H Q => r vs zs H Q ∨ r' vs zs H Q := by
  intro pins s σ H xs zs us ws Q I rx rz z
  rcases z with z | z
  · exact h pins s σ H xs zs us ws Q I rx rz z
  · exact h' pins s σ H xs zs us ws Q I rx rz z
theorem de_maxT {X : Cx} {W : WX} {e d : Expr} {g h : AE → Rs PyData} {pos p kpos : Pos} {k : Nat} (hc : X.calm = true) (hr : Room k X.A) (hg : Gl X "max") (hm : X.mg "max" = none) (ha : DR X W e g) (hd : DF X W d h) (he0 : starEach [e] X.env = (false, eval e X.env) :: starEach [] X.env := by rfl)
    (he : backTo pos (starEach (e :: []) X.env) = (false, eval e X.env) :: backTo pos (starEach [] X.env) := by rfl) (hpl : (backTo pos (starEach (e :: []) X.env)).any (·.1) = false := by rfl) :
    DE X W (.Call (.Name "max" p) [e] [⟨some (Str.ofString "default"), d, kpos⟩] pos) (ePickT maxD g h) := pe_mono (pe_callBK (ks := [Str.ofString "default"]) (CallRK.or (cr_maxF hc hr) (cr_maxFT hc hr)) hg hm boot_max (pa_cons ha pa_nil he0) (pk_cons hd pk_nil) (by decide) (by decide) he hpl rfl rfl rfl) fun σ H Q ⟨c, σa, Z, q⟩ =>
  ⟨c, σa, Z, (Go.bind q).mono fun d q v H1 k1 r1 => ⟨c, σa, Z.kp k1, ((Go.bind q).later k1).mono fun e q w H2 k2 r2 => by
  obtain ⟨av, ev, q⟩ := go_of q
  have hp : ∀ x l, maxD x l ∈ x :: l := fun x l => fold_mem (f := fun y a => dataLt a y) l x
  cases d with
  | list ds =>
    left
    cases ds with
    | nil =>
      cases ev
      obtain ⟨a, xs, rfl, hl, fa⟩ := br_lst (r1.keep0 k2.k)
      cases fa
      exact ⟨a, [], w, [], rfl, rfl, .inl (.inl hl), .nil, rfl, fun _ => q _ H2 (k1.trans k2) r2, fun x l i v e => by cases e⟩
    | cons x l =>
      obtain ⟨hal, rfl⟩ := ite_some (show (if al2 (x :: l) = true then some (dv (maxD x l)) else none) = some av from ev)
      obtain ⟨a, xs, rfl, hl, fa⟩ := br_lst (r1.keep0 k2.k)
      refine ⟨a, xs, w, x :: l, rfl, rfl, .inl (.inl hl), fa.dp, hal, fun e => (by cases e), fun x' l' i v e hv hi => ?_⟩
      cases e
      obtain ⟨v', hv', fv⟩ := fa.get hi
      have e2 : v' = v := Option.some.inj (hv'.symm.trans hv)
      subst e2
      exact q _ H2 (k1.trans k2) fv
  | tuple ds =>
    right
    obtain ⟨a, xs, rfl, hl, fa⟩ := br_tup (r1.keep0 k2.k)
    cases ds with
    | nil =>
      cases ev
      cases fa
      exact ⟨a, [], w, [], rfl, rfl, hl, .nil, rfl, fun _ => q _ H2 (k1.trans k2) r2, fun x l i v e => by cases e⟩
    | cons x l =>
      obtain ⟨hal, rfl⟩ := ite_some (show (if al2 (x :: l) = true then some (dv (maxD x l)) else none) = some av from ev)
      refine ⟨a, xs, w, x :: l, rfl, rfl, hl, fa.dp, hal, fun e => (by cases e), fun x' l' i v e hv hi => ?_⟩
      cases e
      obtain ⟨v', hv', fv⟩ := fa.get hi
      have e2 : v' = v := Option.some.inj (hv'.symm.trans hv)
      subst e2
      exact q _ H2 (k1.trans k2) fv
  | _ => exact (show False by cases ev).elim⟩⟩
end DL
namespace DL
open PySem PySem.Spec PyProof.Rows L2 PySem.W
/-- the first place of one that equals z -/
def fIx (z : PyData) : List PyData → Option Nat
  | [] => none
  | d :: ds => if PyData.eqv d z = true then some 0 else (fIx z ds).map (· + 1)
theorem fIx_ok {z : PyData} : ∀ {ds : List PyData} {j : Nat}, fIx z ds = some j → (∃ y, ds[j]? = some y ∧ PyData.eqv y z = true) ∧ ∀ (m : Nat) (y : PyData), m < j → ds[m]? = some y → PyData.eqv y z = false
  | [], j, h => by cases h
  | d :: ds, j, h => by
    unfold fIx at h
    by_cases e : PyData.eqv d z = true
    · rw [if_pos e] at h
      cases h
      exact ⟨⟨d, rfl, e⟩, fun m y hm => absurd hm (Nat.not_lt_zero _)⟩
    · rw [if_neg e] at h
      cases e2 : fIx z ds with
      | none => rw [e2] at h; cases h
      | some k =>
        rw [e2] at h
        cases h
        obtain ⟨⟨y, h1, h2⟩, h3⟩ := fIx_ok e2
        refine ⟨⟨y, by simpa using h1, h2⟩, fun m y' hm hy => ?_⟩
        cases m with
        | zero => cases hy; simpa using e
        | succ m => exact h3 m y' (by simp only [] at hm; omega) (by simpa using hy)
def lidx (ds : List PyData) (z : PyData) : Option AV := if fit 60 (.list ds) = true ∧ fit 60 z = true then (fIx z ds).map fun j => dv (.int (j : Nat)) else none
def lixR (h : AE → Rs PyData) (s : AE) : PyData → Rs AV
  | .list ds => (h s).bind fun z => Rs.of (lidx ds z)
  | _ => .st
/-- l.index(z) -/
def eLix (g h : AE → Rs PyData) : AE → Rs AV := fun s => (g s).bind (lixR h s)
section
variable {X : Cx} {W : WX} {o e : Expr} {g h : AE → Rs PyData} {apos cpos : Pos} {k : Nat}
theorem de_lindex (hr : Room k X.A) (ho : DR X W o g) (he : DR X W e h) (hbase : attributeBase o "index" X.env (eval o X.env) = eval o X.env := by rfl)
    (hfew : ((backTo cpos (starEach [e] X.env)).all (fun x => !x.1) && (backToKw cpos (keywordEach [] X.env)).all (fun x => x.1.isSome) && decide (([e] : List Expr).length + ([] : List Keyword).length + (if ([] : List Keyword).isEmpty then 0 else 1) < 30)) = true := by rfl)
    (hline : (apos.endLine == cpos.line) = true := by rfl) (hs : starEach [e] X.env = (false, eval e X.env) :: starEach [] X.env := by rfl) (hplain : (backTo cpos (starEach [] X.env)).any (·.1) = false := by rfl) :
    DE X W (.Call (.Attribute o "index" apos) [e] [] cpos) (eLix g h) :=
  pe_mono (pe_bm PySem.F.plainAttrs_list PySem.F.slot_list_index PySem.F.type_list_index (mt_indexD (by have := hr.un; omega)) ho (pa_cons he pa_nil hs) hbase hfew hline hs hplain) fun σ H Q ⟨c, σa, Z, q⟩ =>
    ⟨c, σa, Z, (Go.bind q).mono fun d q v H1 k1 r1 => by
      cases d with
      | list ds =>
        obtain ⟨a, xs, rfl, hl, fa⟩ := br_lst r1
        refine ⟨.inl ⟨rfl, xs, .inl (.inl hl)⟩, c, σa, Z.kp k1, ((Go.bind (show Go X.K W c σ H ((h σa).bind fun z => Rs.of (lidx ds z)) _ from q)).later k1).mono fun z q w H2 k2 r2 => ?_⟩
        obtain ⟨av, ev, q⟩ := go_of q
        unfold lidx at ev
        by_cases hsh : fit 60 (.list ds) = true ∧ fit 60 z = true
        · rw [if_pos hsh] at ev
          cases ej : fIx z ds with
          | none => rw [ej] at ev; cases ev
          | some j =>
            rw [ej] at ev
            cases ev
            obtain ⟨⟨y, h1, h2⟩, h3⟩ := fIx_ok ej
            obtain ⟨a2, xs2, e2, hl2, fa2⟩ := br_lst (r1.keep0 k2.k)
            cases e2
            refine ⟨a, w, z, ds, j, y, rfl, rfl, .lst (.inl (.inl hl2)) fa2.dp, (br_shaped r2 hsh.2).1, (br_shaped (r1.keep0 k2.k) hsh.1).2, (br_shaped r2 hsh.2).2, h1, h2, h3, q _ H2 (k1.trans k2) (show Fz _ _ _ _ _ from .int _)⟩
        · rw [if_neg hsh] at ev
          cases ev
      | _ => exact (show False from q).elim⟩
end
end DL
namespace DL
open PySem PySem.Spec PyProof.Rows L2
section
variable {K : Fr} {c : RC} {σa : AE} {σ : L2.St} {H H1 : Hp} {F : Pd}
theorem NewS.keep0 {s : AS} {v : V} (k : Keep P0 H H1) (h : NewS K c σa σ H F s v) : NewS K c σa σ H1 F s v := by
  rcases h with ⟨d, e, f⟩ | ⟨x, p, e, ev, hf, o, eo, co⟩
  · exact .inl ⟨d, e, f.keep0 k⟩
  · exact .inr ⟨x, p, e, ev, hf, o, k.oth _ _ eo (fun z => z) co.noTbl, co.mono k.any fun _ z => .inl z⟩
theorem AvA.keep0 (k : Keep P0 H H1) : ∀ {avs : List AV} {vs : List V}, AvA K c σa σ H F avs vs → AvA K c σa σ H1 F avs vs
  | [], [], _ => trivial
  | [], _ :: _, h => h.elim
  | _ :: _, [], h => h.elim
  | _ :: _, _ :: _, h => ⟨fun s e => ⟨(h.1 s e).1.keep0 k, (h.1 s e).2⟩, AvA.keep0 k h.2⟩
end
section
variable {X : Cx} {W : WX} {a b : Expr} {f : AVL} {i j : Nat} {x y : Str} {px py pt pos : Pos} {kt k2 : Nat} {pt2 : Pos}
theorem ds_parC (hN : X.N.Nodup) (hc : X.calm = true) (vi : LO X.N X.env.scope i x) (vj : LO X.N X.env.scope j y) (h : DPv X W [a, b] f) (hfi : X.fn x = true ∨ X.env.scope.names.lookup x = some .local) (hfj : X.fn y = true ∨ X.env.scope.names.lookup y = some .local) (nd : [i, j].Nodup := by decide)
    (hs : swapsWithSole [.Tuple [.Name x px, .Name y py] kt pt] (.Tuple [a, b] k2 pt2) pos.line X.env = pure false := by rfl) (hw : swappedStores [.Tuple [.Name x px, .Name y py] kt pt] (.Tuple [a, b] k2 pt2) X.env = pure none := by rfl) :
    DS X W (.Assign [.Tuple [.Name x px, .Name y py] kt pt] (.Tuple [a, b] k2 pt2) pos) (sPar [i, j] f) := ps_mono (ps_asg (pe_tup h) (pg_tup (n := 2) hc (pgs_cons (pg_name hN vi.n vi.l hfi) (pgs_cons (pg_name hN vj.n vj.l hfj) pgs_nil))) hs hw) fun D σ H ⟨c, σa, Z, q⟩ => ⟨c, σa, Z, (go_b Z q).mono fun avs q vs H' F kp hF A => by
  obtain ⟨hl, _⟩ := parL_ok Z kp hF nd A q
  refine ⟨by rw [hl]; show 2 ≤ sizeLine; decide, fun p hp => ?_⟩
  have kn : Kp c.tabs H' (upd H' p (.tup vs)) := Kp.new kp.t hp
  obtain ⟨_, q2⟩ := parL_ok Z (kp.trans kn) hF nd (A.keep0 kn.k) q
  obtain ⟨v, w, rfl⟩ := len2 hl
  exact ⟨p, _, rfl, .inl (.inl upd_same), rfl, v, [w], rfl, w, [], rfl, rfl, q2⟩⟩
end
end DL
namespace DL
open PySem PySem.Spec PyProof.Rows L2
section
variable {E : AE → Rs AV} {A B : AE → Rs PyData} {f : List PyData → Option AV} {i : Nat} {s z : AE} {x d : PyData} {av : AV} {l : List PyData} {mm uu : SM}
theorem sq_rt {b : Bool} (h : mm s = .rt b d z) : sSeq mm uu s = .rt b d z := by
  unfold sSeq
  rw [h]
theorem sq_ex {e : PySem.Str} (h : mm s = .ex e z) : sSeq mm uu s = .ex e z := by
  unfold sSeq
  rw [h]
theorem or_no {t u : AE → Rs Bool} (h1 : t s = .ok false) (h2 : u s = .ok false) : sOr t u s = .ok false := by
  rw [sOr_eq, h1]
  simp [-reduceCtorEq, h2]
theorem rd_call (h : rd E s = .ok x) (hf : f [x] = some (dv d)) : rd (eCall f (aCons (rd E) aNil)) s = .ok d := by
  show Rs.bind (Rs.bind (Rs.bind (rd E s) fun d => .ok [d]) fun ds => Rs.of (f ds)) _ = _
  rw [h]
  show Rs.bind (Rs.of (f [x])) _ = _
  rw [hf]
  rfl
theorem fz_call (h : rd E s = .ok x) (hf : f [x] = some (dv d)) : fz (eCall f (aCons (rd E) aNil)) s = .ok d := by
  show Rs.bind (Rs.bind (Rs.bind (rd E s) fun d => .ok [d]) fun ds => Rs.of (f ds)) _ = _
  rw [h]
  show Rs.bind (Rs.of (f [x])) _ = _
  rw [hf]
  rfl
theorem rd_callN (h : rd E s = .ok x) (hf : f [x] = some (dn d)) : rd (eCall f (aCons (rd E) aNil)) s = .ok d := by
  show Rs.bind (Rs.bind (Rs.bind (rd E s) fun d => .ok [d]) fun ds => Rs.of (f ds)) _ = _
  rw [h]
  show Rs.bind (Rs.of (f [x])) _ = _
  rw [hf]
  rfl
theorem set_call (h : rd E s = .ok x) (hf : f [x] = some av) : sSet i (eCall f (aCons (rd E) aNil)) s = stA i s av := by
  show sB (Rs.bind (Rs.bind (rd E s) fun d => .ok [d]) fun ds => Rs.of (f ds)) s _ = _
  rw [h]
  show sB (Rs.of (f [x])) s _ = _
  rw [hf]
  rfl
theorem set_is (h : E s = .ok av) : sSet i E s = stA i s av := by
  show sB (E s) s _ = _
  rw [h]
  rfl
theorem rd_dn (h : E s = .ok (dn d)) : rd E s = .ok d := by rw [rd_eq, h]; rfl
theorem rd_dv (h : E s = .ok (dv d)) : rd E s = .ok d := by rw [rd_eq, h]; rfl
theorem ne_no (hA : A s = .ok d) (hB : B s = .ok d) (hf : fit 60 d = true) : sV (eB neD A B) s = .ok false := by
  have e := neD_self hf
  simp only [sV_eq, eB_eq]
  rw [hA, hB]
  simp [-reduceCtorEq, e]
theorem set_tup (h : rd E s = .ok (.list l)) (ha : asg s i = true) : sSet i (eCall tupleD (aCons (rd E) aNil)) s = .nx (s.set i (.v (.tuple l))) := by
  rw [set_call (av := dv (.tuple l)) h rfl]
  simp [-reduceCtorEq, stA, ha]
theorem ret_dv (h : E s = .ok (dv d)) : (sRet E s).out = .ok (dv d) := by
  show SR.out (sB (E s) s (rtA s)) = _
  rw [h]
  rfl
end
theorem fit_tup {l : List PyData} (h : ∀ x ∈ l, fit 59 x = true) : fit 60 (.tuple l) = true := List.all_eq_true.mpr h
theorem fit_lst {l : List PyData} (h : ∀ x ∈ l, fit 59 x = true) : fit 60 (.list l) = true := List.all_eq_true.mpr h
theorem enum_rg {f : Nat → PyData} : ∀ (l : List Nat) (s n : Nat), l = List.range' s n → enumD s (l.map f) = l.map fun k => .tuple [.int (k : Int), f k]
  | [], _, _, _ => rfl
  | k :: l, s, 0, h => by simp at h
  | k :: l, s, n + 1, h => by
    rw [List.range'_succ] at h
    injection h with h1 h2
    subst h1
    rw [List.map_cons, List.map_cons, enumD, enum_rg l (k + 1) n h2]
theorem eq_nil (R : List Int) : eqD (.list (R.map .int)) (.list []) = some (dv (.bool R.isEmpty)) := by
  have fl : fit 60 (.list (R.map PyData.int)) = true := fit_ints 59 R
  unfold eqD
  rw [if_pos ⟨fl, rfl⟩]
  cases R <;> rfl
theorem ne_nil (R : List Int) : neD (.list (R.map .int)) (.list []) = some (dv (.bool (!R.isEmpty))) := by
  have fl : fit 60 (.list (R.map PyData.int)) = true := fit_ints 59 R
  unfold neD
  rw [if_pos ⟨fl, rfl⟩]
  cases R <;> rfl
theorem ne_nilL {α : Type} {g : α → PyData} (hg : ∀ a, fit 59 (g a) = true) (R : List α) : neD (.list (R.map g)) (.list []) = some (dv (.bool (!R.isEmpty))) := by
  have fl : fit 60 (.list (R.map g)) = true := fit_lst fun x hx => by
    obtain ⟨k, _, rfl⟩ := List.mem_map.mp hx
    exact hg k
  unfold neD
  rw [if_pos ⟨fl, rfl⟩]
  cases R <;> rfl
theorem eq_nilL {α : Type} {g : α → PyData} (hg : ∀ a, fit 59 (g a) = true) (R : List α) : eqD (.list (R.map g)) (.list []) = some (dv (.bool R.isEmpty)) := by
  have fl : fit 60 (.list (R.map g)) = true := fit_lst fun x hx => by
    obtain ⟨k, _, rfl⟩ := List.mem_map.mp hx
    exact hg k
  unfold eqD
  rw [if_pos ⟨fl, rfl⟩]
  cases R <;> rfl
def srtI (l : List Int) : List Int := l.mergeSort fun a b => decide (a ≤ b)
theorem sorted_any (l : List Int) : sortedAD [.list (l.map .int)] = some (dn (.list ((srtI l).map .int))) := by
  show (if so2 (l.map .int) = true then _ else _) = _
  rw [if_pos (so2_ints l), sort_map .int (fun a b => decide (a ≤ b)) ordD_i]
  rfl
theorem srtI_pw (l : List Int) : (srtI l).Pairwise fun a b => a ≤ b := by
  have hs : (l.mergeSort fun a b => decide (a ≤ b)).Pairwise fun a b => decide (a ≤ b) = true := List.pairwise_mergeSort (fun a b c h1 h2 => by simp at *; omega) (fun a b => by simp; omega) l
  exact hs.imp fun {a b} h => by simpa using h
theorem srtI_perm (l : List Int) : (srtI l).Perm l := List.mergeSort_perm ..
theorem srtI_len (l : List Int) : (srtI l).length = l.length := (srtI_perm l).length_eq
theorem srtI_id {l : List Int} (h : l.Pairwise fun a b => a ≤ b) : srtI l = l := by
  unfold srtI
  exact List.mergeSort_of_pairwise (h.imp fun {a b} g => by simpa using g)
/-- two sorted lists with the same members in the same numbers are one -/
theorem srtI_perm_eq {l r : List Int} (h : l.Perm r) : srtI l = srtI r := by
  refine List.Perm.eq_of_pairwise (le := fun a b => a ≤ b) (fun a b _ _ h1 h2 => Int.le_antisymm h1 h2) (srtI_pw l) (srtI_pw r) ?_
  exact ((srtI_perm l).trans h).trans (srtI_perm r).symm
theorem nm_ix {N : Nat} {n : Nat → Int} {k : Nat} (h : k < N) : ixD (.list (nums N n)) (.int (k : Int)) = some (dv (.int (n k))) := by
  have := nums_ix (N := N) (n := n) (i := (k : Int)) ⟨by omega, by omega⟩
  rw [this, Int.toNat_natCast]
end DL
namespace DL
open PySem PySem.Spec PyProof.Rows L2
section
variable {α : Type} {emb key : α → PyData}
/-- the first least by a key -/
def mkF (key : α → PyData) (x : α) (l : List α) : α := l.foldl (fun a y => if PySem.W.dataLt (key y) (key a) = true then y else a) x
theorem mkF_mem : ∀ (l : List α) (x : α), mkF key x l ∈ x :: l
  | [], x => List.mem_cons_self
  | y :: l, x => by
    show mkF key (if PySem.W.dataLt (key y) (key x) = true then y else x) l ∈ _
    rcases List.mem_cons.mp (mkF_mem l (if PySem.W.dataLt (key y) (key x) = true then y else x)) with e | e
    · rw [e]; split <;> simp
    · exact List.mem_cons_of_mem _ (List.mem_cons_of_mem _ e)
theorem minKL_ok {kf : PyData → Rs PyData} : ∀ (l : List α) (x : α), (∀ a ∈ l, kf (emb a) = .ok (key a)) → (∀ a ∈ x :: l, ∀ b ∈ x :: l, al2 [key a, key b] = true) → minKL kf (emb x) (key x) (l.map emb) = .ok (emb (mkF key x l))
  | [], x, _, _ => rfl
  | y :: l, x, hk, ha => by
    rw [List.map_cons]
    unfold minKL
    rw [hk y List.mem_cons_self, Rs.bind_ok, if_pos (ha y (by simp) x (by simp))]
    show _ = Rs.ok (emb (mkF key (if PySem.W.dataLt (key y) (key x) = true then y else x) l))
    by_cases g : PySem.W.dataLt (key y) (key x) = true
    · rw [if_pos g, if_pos g]
      exact minKL_ok l y (fun a h => hk a (List.mem_cons_of_mem _ h)) fun a h b h' => ha a (List.mem_cons_of_mem _ h) b (List.mem_cons_of_mem _ h')
    · rw [if_neg g, if_neg g]
      refine minKL_ok l x (fun a h => hk a (List.mem_cons_of_mem _ h)) fun a h b h' => ha a ?_ b ?_
      · rcases List.mem_cons.mp h with rfl | h
        · simp
        · exact List.mem_cons_of_mem _ (List.mem_cons_of_mem _ h)
      · rcases List.mem_cons.mp h' with rfl | h'
        · simp
        · exact List.mem_cons_of_mem _ (List.mem_cons_of_mem _ h')
theorem minKD_ok {kf : PyData → Rs PyData} (l : List α) (x : α) (hk : ∀ a ∈ x :: l, kf (emb a) = .ok (key a)) (ha : ∀ a ∈ x :: l, ∀ b ∈ x :: l, al2 [key a, key b] = true) : minKD kf ((x :: l).map emb) = .ok (emb (mkF key x l)) := by
  show (kf (emb x)).bind _ = _
  rw [hk x List.mem_cons_self, Rs.bind_ok]
  exact minKL_ok l x (fun a h => hk a (List.mem_cons_of_mem _ h)) ha
theorem minD_mkF : ∀ (l : List α) (x : α), PySem.W.minD (key x) (l.map key) = key (mkF key x l)
  | [], _ => rfl
  | y :: l, x => by
    rw [List.map_cons]
    show PySem.W.minD (if PySem.W.dataLt (key y) (key x) = true then key y else key x) (l.map key) = key (mkF key (if PySem.W.dataLt (key y) (key x) = true then y else x) l)
    split
    · exact minD_mkF l y
    · exact minD_mkF l x
theorem minA_mkF (l : List α) (x : α) (ha : al2 ((x :: l).map key) = true) : pickAD PySem.W.minD [.list ((x :: l).map key)] = some (dv (key (mkF key x l))) := by
  show (if al2 ((x :: l).map key) = true then _ else _) = _
  rw [if_pos ha]
  show some (dv (PySem.W.minD (key x) (l.map key))) = _
  rw [minD_mkF]
/-- .index of an image -/
theorem fIx_key {z : PyData} : ∀ (l : List α) (m : α), m ∈ l → PyData.eqv (key m) z = true → ∃ j a, l[j]? = some a ∧ PyData.eqv (key a) z = true ∧ fIx z (l.map key) = some j
  | [], m, h, _ => by cases h
  | x :: l, m, h, e => by
    rw [List.map_cons]
    unfold fIx
    by_cases g : PyData.eqv (key x) z = true
    · exact ⟨0, x, rfl, g, if_pos g⟩
    · rcases List.mem_cons.mp h with rfl | h
      · exact absurd e g
      · obtain ⟨j, a, h1, h2, h3⟩ := fIx_key l m h e
        refine ⟨j + 1, a, by simpa using h1, h2, ?_⟩
        rw [if_neg g, h3]
        rfl
theorem lidx_key {l : List α} {m : α} (hf : ∀ a ∈ l, fit 59 (key a) = true) (hm : m ∈ l) (inj : ∀ a ∈ l, PyData.eqv (key a) (key m) = true → a = m) (hz : fit 60 (key m) = true) : ∃ j : Nat, l[j]? = some m ∧ lidx (l.map key) (key m) = some (dv (.int (j : Int))) := by
  obtain ⟨j, a, h1, h2, h3⟩ := fIx_key (key := key) (z := key m) l m hm (eqv_self hz)
  have ea := inj a (List.mem_of_getElem? h1) h2
  subst ea
  refine ⟨j, h1, ?_⟩
  unfold lidx
  rw [if_pos ⟨fit_lst fun x hx => by
    obtain ⟨a, h, rfl⟩ := List.mem_map.mp hx
    exact hf a h, hz⟩, h3]
  rfl
end
def trD (t : Int × Int × Int) : PyData := .tuple [.int t.1, .int t.2.1, .int t.2.2]
theorem alike_tr (p q : Int × Int × Int) : PySem.W.alike (trD p) (trD q) = true := by simp [trD, PySem.W.alike, PySem.W.alikeAll]
theorem depth_tr : ∀ l : List (Int × Int × Int), PyData.depthAll (l.map trD) ≤ 60
  | [] => by simp [PyData.depthAll]
  | x :: l => by
    have := depth_tr l
    simp [trD, PyData.depthAll, PyData.depth] at this ⊢
    omega
theorem al2_tr (l : List (Int × Int × Int)) : al2 (l.map trD) = true := by
  unfold al2
  simp only [Bool.and_eq_true, List.all_eq_true, decide_eq_true_eq]
  refine ⟨⟨?_, ?_⟩, depth_tr l⟩
  · intro x hx y hy
    obtain ⟨p, _, rfl⟩ := List.mem_map.mp hx
    obtain ⟨q, _, rfl⟩ := List.mem_map.mp hy
    exact alike_tr p q
  · intro x hx
    obtain ⟨p, _, rfl⟩ := List.mem_map.mp hx
    rfl
theorem eqv_tr {p q : Int × Int × Int} (h : PyData.eqv (trD p) (trD q) = true) : p = q := by
  have := (eqv_pl (n := 2) (m := 2) (d := trD p) (e := trD q) rfl rfl).mp h
  obtain ⟨a, b, c⟩ := p
  obtain ⟨a', b', c'⟩ := q
  unfold trD at this
  simp only [PyData.tuple.injEq, List.cons.injEq, PyData.int.injEq] at this
  obtain ⟨h1, h2, h3, _⟩ := this
  rw [h1, h2, h3]
theorem str_len (a b : Str) : (a ++ b).length = a.length + b.length := Array.size_append
theorem tw_len (n : Nat) : (tw n).length = 2 := rfl
theorem two_add (n : Nat) : (⟨#[48 + n / 10]⟩ : Str) ++ ⟨#[48 + n % 10]⟩ = tw n := rfl
theorem nil_add (a : Str) : ("" : Str) ++ a = a := by
  show (⟨("" : Str).cps ++ a.cps⟩ : Str) = a
  have : ("" : Str).cps = #[] := by kernel_rfl
  rw [this, Array.empty_append]
end DL
namespace DL
open PySem PySem.Spec PyProof.Rows L2 PySem.W
/-- v, got at s1, will be collected: the items xs -/
def ColI (X : Cx) (pins : List (Addr × Obj)) (σ : L2.St) (v : Value) (H1 : Hp) (s1 : Shared) (xs : List V) : Prop :=
  ∀ (P : Addr) (H2 : Hp) (s2 : Shared) (Q : List Value → Shared → Prop) (E : Value → Shared → Prop), Inv X pins σ H2 s2 → TabC H1 P → Tabd P H1 H2 → lenOk xs.length → (∀ b o, b ≠ P → s1.heap.get? b = some o → s2.heap.get? b = some o) →
    (∀ us s3, Inv X pins σ H2 s3 → Vals xs us → (∀ b o, s2.heap.get? b = some o → s3.heap.get? b = some o) → Q us s3) → wpAny (model X.prog X.w) X.A.in1 (collect v) Q E s2
structure PCo (X : Cx) (iter : Expr) (wi : L2.St → Hp → (List V → Hp → Prop) → Prop) : Prop where
  run : ∀ (pins : List (Addr × Obj)) (s : Shared) (σ : L2.St) (H : Hp) (R : List V → Hp → Prop), Inv X pins σ H s → wi σ H R →
    wpAny (model X.prog X.w) X.A (eval iter X.env) (fun v s1 => ∃ (l : Addr) (xs : List V) (H1 : Hp), v = .ref l ∧ Inv X pins σ H1 s1 ∧ ColI X pins σ v H1 s1 xs ∧ R xs H1) X.xe s
def tCo (K : Fr) (W : WX) (it : AE → Rs (List PyData)) : L2.St → Hp → (List V → Hp → Prop) → Prop := fun σ H R => ∃ c σa, Rst K c H σa σ ∧ Go K W c σ H (it σa) fun ds => ∀ xs H', Kp c.tabs H H' → FzA K (Pr c σa σ) H' xs ds → R xs H'
abbrev DCo (X : Cx) (W : WX) (e : Expr) (it : AE → Rs (List PyData)) : Prop := PCo X e (tCo X.K W it)
def iCo (g : AE → Rs PyData) : AE → Rs (List PyData) := fun s => (g s).bind itemsD
section
variable {X : Cx} {W : WX} {e a b : Expr} {g h : AE → Rs PyData} {pos p : Pos}
theorem dco_seq (he : DR X W e g) : DCo X W e (iCo g) := by
  refine ⟨fun pins s σ H R I ⟨c, σa, Z, q⟩ => ?_⟩
  refine thn (he.run pins s σ H (fun v H1 => ∃ a xs, v = .ref a ∧ (SqT X.K H1 a xs ∨ SqL X.K H1 a xs) ∧ R xs H1) I ⟨c, σa, Z, (Go.bind q).mono fun d q v H1 k1 r1 => ?_⟩) fun v s1 ⟨x, H1, I1, r1, a, xs, e, hs, q1⟩ => ?_
  · cases d with
    | list l =>
      obtain ⟨a, xs, rfl, s1, f⟩ := br_lst r1
      exact ⟨a, xs, rfl, .inr (.inl (.inl s1)), q xs H1 k1 f⟩
    | tuple l =>
      obtain ⟨a, xs, rfl, s1, f⟩ := br_tup r1
      exact ⟨a, xs, rfl, .inl s1, q xs H1 k1 f⟩
    | _ => exact (show False from q).elim
  · subst e
    cases r1
    refine ⟨a, xs, H1, rfl, I1, fun P H2 s2 Q E I2 hT hd hl hk h => ?_, q1⟩
    rcases hs with hq | hq
    · have hq2 : SqT X.K H2 a xs := by
        rcases hq with (z | ⟨ob, z⟩) | z
        · exact .inl (.inl (tabd_keep hT hd z fun ps z => by cases z))
        · exact .inl (.inr ⟨ob, tabd_keep hT hd z fun ps z => by cases z⟩)
        · exact .inr z
      obtain ⟨its, r, ⟨o, ho, hc, n, hd⟩, hz⟩ := I2.tuple hq2
      have hl := r.length
      refine wpAny_collect_seq a (.inr rfl) ho hc hd (fun h' hk => ?_) (by rw [List.size_toArray]; omega)
      have e : its.toArray.toList = its := by simp
      rw [e]
      exact h its _ (I2.kept (t' := s2.toks) hk) r hk
    · have hq2 : SqL X.K H2 a xs := by
        rcases hq with (z | ⟨ob, z⟩) | z
        · exact .inl (.inl (tabd_keep hT hd z fun ps z => by cases z))
        · exact .inl (.inr ⟨ob, tabd_keep hT hd z fun ps z => by cases z⟩)
        · exact .inr z
      obtain ⟨its, r, pl, hz⟩ := I2.list hq2
      obtain ⟨o, ho, hc, n, hd⟩ := pl.isList
      have hl := r.length
      refine wpAny_collect_seq a (.inl rfl) ho hc hd (fun h' hk => ?_) (by rw [List.size_toArray]; omega)
      have e : its.toArray.toList = its := by simp
      rw [e]
      exact h its _ (I2.kept (t' := s2.toks) hk) r hk
theorem range_col {pins : List (Addr × Obj)} {σ : L2.St} {H : Hp} {s : Shared} {R : List V → Hp → Prop} {lo hi : Int} {t u v : Tok} {tk : Nat} (hc : X.A.handled = none) (I : Inv X pins σ H s) (h1 : -(2 ^ 62) ≤ lo) (h2 : lo < 2 ^ 62) (h3 : -(2 ^ 62) ≤ hi) (h4 : hi < 2 ^ 62)
    (q : R (rgV lo hi) H) : ∃ (l : Addr) (xs : List V) (H1 : Hp), Value.ref s.heap.objs.size = .ref l ∧ Inv X pins σ H1 { s with heap := s.heap.push { cls := .type "range", data := .fields #[.int lo t, .int hi u, .int 1 v] }, toks := tk } ∧
      ColI X pins σ (.ref s.heap.objs.size) H1 { s with heap := s.heap.push { cls := .type "range", data := .fields #[.int lo t, .int hi u, .int 1 v] }, toks := tk } xs ∧ R xs H1 := by
  have I1 : Inv X pins σ H { s with heap := s.heap.push { cls := .type "range", data := .fields #[.int lo t, .int hi u, .int 1 v] }, toks := tk } := I.kept fun b o e => Heap.get?_push_of_some _ e
  refine ⟨_, _, H, rfl, I1, fun P H2 s2 Q E I2 hT hd hl hk h => ?_, q⟩
  have nP : s.heap.objs.size ≠ P := fun z => by
    obtain ⟨ps, hp, _⟩ := hT
    have := I.hok.fresh (Nat.le_refl s.heap.objs.size)
    rw [z, hp] at this
    cases this
  have ho : IsRange s2.heap s.heap.objs.size lo hi 1 t u v := hk _ _ nP (IsRange.new ..)
  have hn : Builtin.Range.rangeSize lo hi 1 = ((hi - lo).toNat : Nat) := by rw [rangeSize_one]; split <;> omega
  have hl := hl.le
  rw [show (rgV lo hi).length = (hi - lo).toNat by simp [rgV]] at hl
  refine collect_range (A := X.A.in1) hc ho (small_one h1 h2 h3 h4) hn (Nat.le_trans hl (by decide)) fun h' tk acc hk2 hi2 => ?_
  exact h acc.toList _ (I2.kept (t' := tk) hk2) (vals_rg hi2) hk2
theorem fz_rg {P : Pd} {H : Hp} (lo hi : Int) : FzA X.K P H (rgV lo hi) (rgD lo hi) := by
  unfold rgD rgV
  have := FzA.ints (K := X.K) P H ((List.range (hi - lo).toNat).map fun k : Nat => lo + (k : Nat))
  rw [List.map_map, List.map_map] at this
  exact this
theorem dco_rg1 {k : Nat} (hr : Room k X.A) (hg : Gl X "range") (hm : X.mg "range" = none) (ha : DR X W a g) (hs : starEach [a] X.env = [(false, eval a X.env)] := by rfl) : DCo X W (.Call (.Name "range" p) [a] [] pos) (iRg1 g) := by
  refine ⟨fun pins s σ H R I ⟨c, σa, Z, q⟩ => ?_⟩
  refine Call_ (ld_blt I hg hm boot_range (PyProof.Rows.callWith_type1 (thn ((pa_cons ha pa_nil hs).run pos pins s σ H (fun vs H1 => ∃ n : Int, vs = [.int n] ∧ -(2 ^ 62) ≤ n ∧ n < 2 ^ 62 ∧ R (rgV 0 n) H1) I ⟨c, σa, Z, (Go.bind q).mono fun d q v H1 k1 r1 => ?_⟩) fun us s1 ⟨vs, H1, I1, r1, q1⟩ => ?_) hs rfl))
  · split at q
    · rename_i n
      split at q
      · rename_i hn
        cases br_int r1
        obtain ⟨h1, h2, h3, h4⟩ := hn.lt
        exact ⟨n, rfl, by omega, by omega, q _ H1 k1 (fz_rg 0 n)⟩
      · exact q.elim
    · exact q.elim
  · obtain ⟨j, e, q1, q2, q⟩ := q1
    subst e
    cases r1 with
    | cons r rr =>
      cases rr
      obtain ⟨t, rfl⟩ := r
      exact call_range_1 (range_col hr.hd I1 (by omega) (by omega) q1 q2 q)
theorem dco_rg2 {k : Nat} (hr : Room k X.A) (hg : Gl X "range") (hm : X.mg "range" = none) (ha : DR X W a g) (hb : DR X W b h) (hs : starEach [a, b] X.env = [(false, eval a X.env), (false, eval b X.env)] := by rfl) (hs2 : starEach [b] X.env = [(false, eval b X.env)] := by rfl) :
    DCo X W (.Call (.Name "range" p) [a, b] [] pos) (iRg2 g h) := by
  refine ⟨fun pins s σ H R I ⟨c, σa, Z, q⟩ => ?_⟩
  refine Call_ (ld_blt I hg hm boot_range (PyProof.Rows.callWith_type1 (thn ((pa_cons ha (pa_cons hb pa_nil hs2) (by rw [hs, hs2])).run pos pins s σ H (fun vs H1 => ∃ n m : Int, vs = [.int n, .int m] ∧ (-(2 ^ 62) ≤ n ∧ n < 2 ^ 62 ∧ -(2 ^ 62) ≤ m ∧ m < 2 ^ 62) ∧ R (rgV n m) H1) I ⟨c, σa, Z, (Go.bind q).mono fun d q v H1 k1 r1 => ⟨c, σa, Z.kp k1, ((Go.bind q).later k1).mono fun e q w H2 k2 r2 => ?_⟩⟩) fun us s1 ⟨vs, H1, I1, r1, q1⟩ => ?_) (by rw [hs, hs2]) (by rw [hs2]; rfl)))
  · obtain ⟨n, m, rfl, rfl, hn, q⟩ := rg2_ok q
    cases br_int r1; cases br_int r2
    obtain ⟨h1, h2, h3, h4⟩ := hn.lt
    exact ⟨n, m, rfl, ⟨by omega, by omega, by omega, by omega⟩, q _ H2 (k1.trans k2) (fz_rg n m)⟩
  · obtain ⟨i, j, e, ⟨q1, q2, q3, q4⟩, q⟩ := q1
    subst e
    cases r1 with
    | cons r rr =>
      cases rr with
      | cons r' rr =>
        cases rr
        obtain ⟨t, rfl⟩ := r
        obtain ⟨t', rfl⟩ := r'
        exact call_range_2 (range_col hr.hd I1 q1 q2 q3 q4 q)
end
end DL
namespace DL
open PySem PySem.Spec PyProof.Rows L2 PySem.W
/-- the keys, one after the other -/
def mapK (kf : PyData → Rs PyData) : List PyData → Rs (List PyData)
  | [] => .ok []
  | d :: ds => (kf d).bind fun k => (mapK kf ds).bind fun ks => .ok (k :: ks)
def sortKD (p q : PyData × PyData) : Bool := ordD p.2 q.2
/-- sorted(it, key=lambda j: fe) -/
def eSortK (it : AE → Rs (List PyData)) (j : Nat) (fe : AE → Rs AV) : AE → Rs AV := fun s => (it s).bind fun ds => if free1 s j = true ∧ lenOk ds.length then (nox (mapK (kfD fe (wipeA s [j]) j) ds)).bind fun ks => if so2 ks = true then .ok (dn (.list (((ds.zip ks).mergeSort sortKD).map (·.1)))) else .st else .st
theorem mapK_get {kf : PyData → Rs PyData} : ∀ {ds ks : List PyData}, mapK kf ds = .ok ks → ks.length = ds.length ∧ ∀ (i : Nat) (d : PyData), ds[i]? = some d → ∃ k, ks[i]? = some k ∧ kf d = .ok k
  | [], ks, h => by cases h; exact ⟨rfl, fun i d h => by simp at h⟩
  | d :: ds, ks, h => by
    obtain ⟨k, h1, h⟩ := bind_ok h
    obtain ⟨ks', h2, h⟩ := bind_ok h
    cases h
    obtain ⟨a, b⟩ := mapK_get h2
    refine ⟨by simp [a], fun i e he => ?_⟩
    cases i with
    | zero => cases he; exact ⟨k, rfl, h1⟩
    | succ i => exact b i e (by simpa using he)
section
variable {X : Cx} {σ : L2.St} {pins : List (Addr × Obj)}
/-- list.sort's end behind the keys -/
theorem sk_end {a kS : Addr} {vs : List Value} {keys : Array Value} {e e1 : Nat} {κ : PyProof.Rows.KeyKind} {A : Around} {s : Shared} {prog : Program} {w : World} {P : PySem.Fin → Shared → Prop} {E : Value → Shared → Prop} (hka : kS ≠ a) (nk : s.heap.get? kS = some (seqObj "list" keys e)) (na : s.heap.get? a = some (seqObj "list" #[] e1))
    (S : SortsAt prog w A s κ keys.toList) (hsz : keys.size = vs.length) (hZ : vs.length ≤ sizeLine)
    (h : ∀ (G h' : Heap) tk c, (∀ b o, b ≠ kS → s.heap.get? b = some o → G.get? b = some o) → (∀ b o, b ≠ a → G.get? b = some o → h'.get? b = some o) → h'.get? a = some (seqObj "list" (sortVals κ false keys.toList vs).toArray c) → P (.done (.ret .none)) { s with heap := h', toks := tk }) :
    wpAny (model prog w) A (ksk_end a false vs.toArray e1 (.ref kS) keys) P E s := by
  have hh : s.heap.objs.size = s.heap.objs.size := rfl
  have hkl : keys.toList.length = vs.length := by
    rw [Array.length_toList]
    exact hsz
  have hK : PyProof.Rows.KeysOf κ (keys.zip vs.toArray) := keysOf_zip S.keys
  have hol : (sortVals κ false keys.toList vs).length = vs.length := sortVals_length false hkl
  obtain ⟨kd, h1, h2⟩ := S.kind
  have hss : (keys.zip vs.toArray).size = vs.length := by rw [Array.size_zip, hsz, List.size_toArray, Nat.min_self]
  have fin : ∀ st' : SortSt, (arrOf st').Perm (keys.zip vs.toArray) → SortedToK κ (arrOf st') (keys.zip vs.toArray).size → Stable κ (arrOf st') (keys.zip vs.toArray) → (arrOf st').map (·.2) = (sortVals κ false keys.toList vs).toArray := by
    intro st' hp hs ht
    have e := sort_out (rev := false) (keys := keys) (items := vs.toArray) (xs := arrOf st') (κ := κ) hK (by simpa using hp) (by simpa using hs) (by simpa using ht)
    have e' := congrArg List.toArray e
    rw [Array.toArray_toList] at e'
    simpa using e'
  have tail : ∀ st : SortSt, failedOf st = none → (arrOf st).map (·.2) = (sortVals κ false keys.toList vs).toArray → wpAny (model prog w) A (ksk_tail a false e1 (.ref kS) st) P E s := by
    intro st hfl ho
    have s1 := Heap.SameBut.update s.heap kS (Obj.mapSeq fun _ => (#[] : Array Value))
    have na1 : (s.heap.update kS (Obj.mapSeq fun _ => (#[] : Array Value))).get? a = some (seqObj "list" #[] e1) := (s1.2 a hka.symm).trans na
    have s2 := Heap.SameBut.update (s.heap.update kS (Obj.mapSeq fun _ => (#[] : Array Value))) a (Obj.mapSeq fun _ => (sortVals κ false keys.toList vs).toArray)
    obtain ⟨c2, hc2⟩ : ∃ c2, ((s.heap.update kS (Obj.mapSeq fun _ => (#[] : Array Value))).update a (Obj.mapSeq fun _ => (sortVals κ false keys.toList vs).toArray)).get? a = some (seqObj "list" (sortVals κ false keys.toList vs).toArray c2) :=
      ⟨_, get?_update_seq na1 fun _ => (sortVals κ false keys.toList vs).toArray⟩
    unfold ksk_tail
    try dsimp only
    rw [ho]
    refine wpAny_bind (listUpdate_at nk rfl ?_ (by rw [hsz]; exact hZ) (Nat.zero_le _))
    refine wpAny_bind (wpAny_letGo ?_)
    refine wpAny_bind (seqEpoch_at na1 rfl ?_)
    refine wpAny_bind (listUpdate_at na1 rfl ?_ (Nat.zero_le _) (by
      show (sortVals κ false keys.toList vs).toArray.size ≤ sizeLine + 1
      rw [List.size_toArray, hol]
      exact Nat.le_succ_of_le hZ))
    rw [hfl]
    simp only [bne_self_eq_false, Bool.false_eq_true, if_false]
    exact wpAny_pure (h _ _ _ c2 (fun b o hb e => (s1.2 b hb).trans e) (fun b o hb e => (s2.2 b hb).trans e) hc2)
  unfold ksk_end
  try dsimp only
  simp only [Bool.false_eq_true, if_false]
  by_cases hl2 : vs.toArray.size < 2
  · rw [if_pos hl2, if_pos hl2]
    refine wpAny_bind (wpAny_pure ?_)
    rw [StateT.run_pure]
    refine wpAny_bind (wpAny_pure ?_)
    try dsimp only
    refine tail (SortSt.mk' general' (keys.zip vs.toArray) #[] 7 none) rfl (fin _ (Array.Perm.refl _) ?_ (Stable.refl _))
    intro i j hij hj
    rw [hss] at hj
    rw [List.size_toArray] at hl2
    have : i = j := by omega
    subst this
    exact KeyOrd.kle_refl _
  · rw [if_neg hl2, if_neg hl2]
    rw [List.size_toArray] at hl2
    refine wpAny_bind (h2 (by omega) _ ?_)
    refine wpAny_bind (wpAny_mono (PyProof.Rows.H.wpS_sortRunsSt (κ := κ) (kd := kd) (a₀ := keys.zip vs.toArray)
      (st := SortSt.mk' kd (keys.zip vs.toArray) #[] 7 none)
      (Q := fun _ st' => failedOf st' = none ∧ (arrOf st').map (·.2) = (sortVals κ false keys.toList vs).toArray)
      h1 hK ⟨Array.Perm.refl _, rfl, rfl⟩ rfl (Stable.refl _) (by rw [hss]; omega) fun st' a1 a2 a3 a4 => ⟨a2, fin st' a1 a3 a4⟩) ?_ fun _ _ e => e)
    rintro ⟨⟨⟩, st'⟩ s' ⟨rfl, hf, ho⟩
    try dsimp only at ho ⊢
    exact tail st' hf ho
theorem each_map {α β γ : Type} {R : α → γ → Prop} {f : β → γ} : ∀ {as : List α} {bs : List β}, EachIs (fun a b => R a (f b)) as bs → EachIs R as (bs.map f)
  | [], [], _ => .nil
  | [], _ :: _, h => by cases h
  | _ :: _, [], h => by cases h
  | _ :: _, _ :: _, h => by
    cases h with
    | cons h1 t => exact .cons h1 (each_map t)
/-- list.sort behind the taking of the items -/
theorem sk_rest {a kS f c' : Addr} {k j : Nat} {params : Arguments} {body : Expr} {scope : Scope} {an q : Str} {pm ctv : Value} {c : RC} {σa : AE} {fe : AE → Rs AV} {H1 : Hp} {ds kz : List PyData} {xs : List V} {us : List Value} {e1 : Nat} {s : Shared} {P : PySem.Fin → Shared → Prop} {E : Value → Shared → Prop} (KC : KyC X k params body scope an j fe)
    (Z1 : Rst X.K c H1 σa σ) (hco : H1 c' = some (LamX.CodeO c' q)) (hfr : free1 σa j = true) (I : Inv X pins σ H1 s) (ky : KyOk X pins H1 [a] kS f) (hF : s.heap.get? f = some (lmObj X params body scope pm c' ctv)) (hA : s.heap.get? a = some (seqObj "list" #[] e1)) (hS : s.heap.get? kS = some (seqObj "list" #[] 0))
    (rv : Vals xs us) (fx : FzA X.K (Pr c σa σ) H1 xs ds) (hl : lenOk ds.length) (hk : mapK (kfD fe (wipeA σa [j]) j) ds = .ok kz) (ho : so2 kz = true)
    (hP : ∀ s' H' ys, Inv X pins σ (upd H' a (.lst ys)) s' → Kp c.tabs H1 H' → H' a = none → FzA X.K (Pr c σa σ) H' ys (((ds.zip kz).mergeSort sortKD).map (·.1)) → P (.done (.ret .none)) s') :
    wpAny (model X.prog X.w) X.A.in1 (ksk_rest a (.ref f) false us.toArray e1 (.ref kS)) P E s := by
  obtain ⟨hkl, hkg⟩ := mapK_get hk
  have hxl := fx.length
  have hul := rv.length
  have hZ : us.length ≤ sizeLine := by rw [← hul, hxl]; exact hl.line
  have hka : kS ≠ a := fun z => ky.nW (by simp [z])
  unfold ksk_rest
  refine wpAny_bind (wpAny_rule ?_)
  first
    | rw [List.forIn_toArray]
    | (rw [← Array.forIn_toList]; simp only [List.toList_toArray])
    | rw [← Array.forIn_toList]
  refine wpAny_bind (ksk_fold (fun i s' => ∃ Hi kA e ys, Inv X pins σ Hi s' ∧ Kp c.tabs H1 Hi ∧ KyOk X pins Hi [a] kS f ∧ s'.heap.get? f = some (lmObj X params body scope pm c' ctv) ∧ s'.heap.get? a = some (seqObj "list" #[] e1) ∧ s'.heap.get? kS = some (seqObj "list" kA e) ∧ Vals ys kA.toList ∧ FzA X.K (Pr c σa σ) Hi ys (kz.take i)) us 0 s
    ⟨H1, #[], 0, [], I, Kp.refl Z1, ky, hF, hA, hS, .nil, by rw [List.take_zero]; exact .nil⟩ ?step ?done)
  case step =>
    rintro i u s' hu ⟨Hi, kA, e, ys, Ii, ki, kyi, hFi, hAi, hSi, ry, fy⟩
    simp only [Nat.zero_add] at fy ⊢
    have hj : i < us.length := (List.getElem?_eq_some_iff.mp hu).1
    obtain ⟨x, hx⟩ : ∃ x, xs[i]? = some x := ⟨_, List.getElem?_eq_getElem (by omega)⟩
    obtain ⟨d, hd, fd⟩ := fx.getV hx
    obtain ⟨u', hu', rx⟩ := rv.get hx
    rw [hu] at hu'
    cases hu'
    obtain ⟨kd, hkd, ek⟩ := hkg i d hd
    have hyl := fy.length
    have hrl := ry.length
    rw [List.length_take] at hyl
    have hrl : ys.length = kA.size := by rw [ry.length, Array.length_toList]
    have hz : kA.size ≤ us.length := by omega
    refine wpAny_bind (wpAny_attempt (ky_key (K := X.K) (it := a) (tn := fun _ _ => True) (i := 0) KC.room KC.sc KC.nd Ii kyi (fun b hb => by rw [List.mem_singleton.mp hb]; exact ⟨_, hAi, wl_obj⟩) hSi wl_obj hFi (ki.k.oth c' _ hco (fun z => z) LamX.codeO_ne) (KC.bind _ _ _ _ _ _) (fun A s H env he hr => by subst he; exact KC.body A s H q _ f c' hr) rx (Z1.kp ki) hfr (fd.keep0 ki.k) ek fun v w H5 s5 I5 k5 rw5 fw ky5 hI5 hS5 hF5 => ?_))
    try dsimp only
    have hA5 := hI5 a (by simp) _ hAi
    obtain ⟨c2, hc2⟩ : ∃ c2, (s5.heap.update kS (Obj.mapSeq (·.push v))).get? kS = some (seqObj "list" (kA.push v) c2) := ⟨_, get?_update_seq hS5 (·.push v)⟩
    obtain ⟨g1, g2, g3, g4, g5, g6⟩ := ky5.okW
    have ek2 : kz.take (i + 1) = kz.take i ++ [kd] := by rw [List.take_add_one, hkd]; simp
    have ea : (kA.push v).toList = kA.toList ++ [v] := by simp
    refine wpAny_bind (listUpdate_at hS5 rfl ?_ (Nat.le_trans hz hZ) (Nat.le_trans (Nat.le_of_eq (Array.size_push ..)) (Nat.succ_le_succ (Nat.le_trans hz hZ))))
    refine wpAny_pure ⟨rfl, H5, kA.push v, c2, ys ++ [w], I5.turned (it := kS) (t' := s5.toks) (h' := s5.heap.update kS (Obj.mapSeq (·.push v))) (fun b o hb e => (Heap.get?_update_other _ _ (Ne.symm hb)).trans e) g1 g2 g4 g5 g6, ki.trans k5, ky5, ?_, ?_, hc2, ?_, ?_⟩
    · exact (Heap.get?_update_other _ _ (Ne.symm ky5.ne)).trans hF5
    · exact (Heap.get?_update_other _ _ hka).trans hA5
    · rw [ea]
      exact ry.append (.cons rw5 .nil)
    · rw [ek2]
      exact (fy.keep0 k5.k).append (.cons fw .nil)
  case done =>
    rintro s' ⟨Hi, kA, e, ys, Ii, ki, kyi, hFi, hAi, hSi, ry, fy⟩
    have et : kz.take (0 + us.length) = kz := List.take_of_length_le (by omega)
    rw [et] at fy
    have hyl := fy.length
    have hrl : ys.length = kA.size := by rw [ry.length, Array.length_toList]
    obtain ⟨h1, h2, h3⟩ := so2_ok ho
    obtain ⟨as, hra⟩ := Dp.readsAll Ii _ _ _ fy.dp ry
    have er : EachIs (fun v k => ∃ as, Reads s'.heap v k as) kA.toList kz := reads_each hra
    try dsimp only
    refine wpAny_bind (listItems_at hSi rfl ?_)
    refine sk_end (κ := dataKind s'.heap kz) hka hSi hAi (SortsAt.data er h1 h2 fun d hd => ?_) (by omega) hZ fun G h' tk cc hG1 hG2 ha' => ?_
    · have := KC.room.un
      have := h3 d hd
      show X.A.units + 1 + _ < _
      omega
    · have fxi := fx.keep0 ki.k
      have hlen : (ds.zip kz).map Prod.fst = ds := List.map_fst_zip (by omega)
      have hlen2 : (ds.zip kz).map Prod.snd = kz := List.map_snd_zip (by omega)
      have e0 : EachIs (fun u b => ∃ v, RelV v u ∧ Fz X.K (Pr c σa σ) Hi v b.1) us (ds.zip kz) := each_of_map Prod.fst (by rw [hlen]; exact each_tri rv fxi)
      have ko : KeyedOut false ((ds.zip kz).map Prod.snd) us (sortVals (dataKind s'.heap kz) false kA.toList us) := by
        rw [hlen2]
        exact ⟨s'.heap, kA.toList, h1, rfl, er⟩
      have e2 := keyedOut_each (Prod.snd : PyData × PyData → PyData) ko e0
      have e3 : EachIs (fun u d => ∃ v, RelV v u ∧ Fz X.K (Pr c σa σ) Hi v d) (sortVals (dataKind s'.heap kz) false kA.toList us) (((ds.zip kz).mergeSort sortKD).map (·.1)) := each_map (f := Prod.fst) (R := fun u d => ∃ v, RelV v u ∧ Fz X.K (Pr c σa σ) Hi v d) e2
      obtain ⟨zs, rz, fz'⟩ := each_back e3
      have hzl := rz.length
      have hol : (sortVals (dataKind s'.heap kz) false kA.toList us).length = us.length := sortVals_length false (by rw [Array.length_toList]; omega)
      obtain ⟨g1, g2, g3, g4, g5, g6⟩ := kyi.okW
      have fa := kyi.okI a (by simp)
      have I2 := Ii.turned (it := kS) (t' := s'.toks) (h' := G) (fun b o hb e => hG1 b o hb e) g1 g2 g4 g5 g6
      refine hP _ Hi zs (I2.take (t' := tk) (fun b o hb e => hG2 b o hb e) fa ⟨by omega, _, cc, rz, ha'⟩) ki fa.1 fz'
/-- sorted(it, key=lambda) -/
theorem de_sortK {W : WX} {c P : Addr} {k j : Nat} {params : Arguments} {body iter : Expr} {scope : Scope} {a : Str} {fe : AE → Rs AV} {it : AE → Rs (List PyData)} {p pos lpos kpos : Pos} (hg : Gl X "sorted") (hm : X.mg "sorted" = none) (hr3 : Room (k + 3) X.A) (KC : KyC X k params body scope a j fe) (TB : GxR.TabB X.base X.mg c P) (hP : P ∈ TabsOf X.K) (hcode : X.env.code = .ref c)
    (hdef : defaultsOf params X.env = ([], [])) (hi : DCo X W iter it) (he : backTo pos (starEach [iter] X.env) = (false, eval iter X.env) :: backTo pos (starEach [] X.env) := by rfl) (hpl : (backTo pos (starEach [iter] X.env)).any (·.1) = false := by rfl) :
    DE X W (.Call (.Name "sorted" p) [iter] [⟨some (Str.ofString "key"), .Lambda params body scope lpos, kpos⟩] pos) (eSortK it j fe) := by
  refine ⟨fun pins s σ H Q I h => ?_⟩
  obtain ⟨c0, σa, Z, q⟩ := h
  have hfree : ∀ y ∈ scope.names, y.2 = .free → ∃ c, X.env.cells.lookup y.1 = some c := fun y hy e => by
    rcases KC.sc.free y hy e with k | k
    · exact I.ok.has _ (.inl k)
    · exact I.ok.has _ (.inr k)
  refine wpAny_Call_Name_kw (ld_blt I hg hm boot_sorted ?_)
  refine PyProof.Rows.callWith_kw ?_ he hpl rfl rfl
  rw [he]
  refine Calls.spliced_cons (thn (hi.run pins s σ H (fun xs H1 => ∃ ds, Kp c0.tabs H H1 ∧ FzA X.K (Pr c0 σa σ) H1 xs ds ∧ Go X.K W c0 σ H (if free1 σa j = true ∧ lenOk ds.length then (nox (mapK (kfD fe (wipeA σa [j]) j) ds)).bind fun ks => if so2 ks = true then .ok (dn (.list (((ds.zip ks).mergeSort sortKD).map (·.1)))) else .st else .st : Rs AV) fun av => ∀ v H', Kp c0.tabs H H' → AvR X.K c0 σa σ H H' av v → Q v H') I ⟨c0, σa, Z, (Go.bind q).mono fun ds q xs H1 k1 y => ⟨ds, k1, y, q⟩⟩) fun v s1 ⟨l, xs, H1, ev, I1, lat, ds, k1, fx, q⟩ => Calls.spliced_nil ?_)
  subst ev
  have hfr : free1 σa j = true ∧ lenOk ds.length := by
    by_cases hc : free1 σa j = true ∧ lenOk ds.length
    · exact hc
    · rw [if_neg hc] at q; exact q.elim
  rw [if_pos hfr] at q
  obtain ⟨kz, er, q⟩ : ∃ r, mapK (kfD fe (wipeA σa [j]) j) ds = .ok r ∧ Go X.K W c0 σ H (if so2 r = true then .ok (dn (.list (((ds.zip r).mergeSort sortKD).map (·.1)))) else .st : Rs AV) fun av => ∀ v H', Kp c0.tabs H H' → AvR X.K c0 σa σ H H' av v → Q v H' := by
    cases el : mapK (kfD fe (wipeA σa [j]) j) ds with
    | st => rw [el] at q; exact q.elim
    | ex e => rw [el] at q; exact q.elim
    | ok l => rw [el] at q; exact ⟨l, rfl, q⟩
  have hso : so2 kz = true := by
    by_cases hc : so2 kz = true
    · exact hc
    · rw [if_neg hc] at q; exact q.elim
  rw [if_pos hso] at q
  have q : ∀ v H', Kp c0.tabs H H' → AvR X.K c0 σa σ H H' (dn (.list (((ds.zip kz).mergeSort sortKD).map (·.1)))) v → Q v H' := q
  have Z1 := Z.kp k1
  have hT : TabC H1 P := Z1.tab P (by rw [Z1.tabE]; exact hP)
  refine kwAll_cons (lm_make I1 TB hcode hT hdef hfree fun f c' qn pm ctv H2 s2 I2 td kp hf fpf hco hsz => kwAll_nil ?_)
  have k2 : Kp c0.tabs H1 H2 := kp_tabbed Z1.tab hT td
  have Z2 := Z1.kp k2
  have fx2 := fx.keep0 k2.k
  show wpAny _ _ (call (.builtin "sorted") [.ref l] [(Str.ofString "key", .ref f)]) _ _ _
  refine call_function_entry_kw kind_sorted plain_sorted entry_sorted (ksk_s1 _ _) ?_
  unfold Builtin.«sorted»
  refine wpAny_bind (m := checkCount "sorted" 1 1 _) (wpAny_pure ?_)
  refine wpAny_bind (lat P H2 s2 _ _ I2 hT td (by rw [fx.length]; exact hfr.2) kp fun us s3 I3 rv kp3 => ?_)
  have hul : us.length ≤ sizeLine := by rw [← rv.length, fx.length]; exact hfr.2.line
  refine wpAny_bind (wpAny_newList ?_ hul)
  have hD : H2 s3.heap.objs.size = none := I3.hok.fresh (Nat.le_refl _)
  have ho3 : (s3.heap.push (seqObj "list" us.toArray 0)).get? s3.heap.objs.size = some (seqObj "list" us.toArray 0) := Heap.get?_push_size _ rfl
  refine wpAny_bind (wpAny_holding (wpAny_call_entry_kw slot_list_sort ⟨_, ho3, rfl⟩ entry_list_sort ?body (ksk_l1 _ _)))
  case body =>
    rw [ksk_t1]
    unfold ksk_tree
    have s1' := Heap.SameBut.update (s3.heap.push (seqObj "list" us.toArray 0)) s3.heap.objs.size (Obj.mapSeq fun _ => (#[] : Array Value))
    obtain ⟨e1, ho1⟩ : ∃ e1, ((s3.heap.push (seqObj "list" us.toArray 0)).update s3.heap.objs.size (Obj.mapSeq fun _ => (#[] : Array Value))).get? s3.heap.objs.size = some (seqObj "list" #[] e1) := ⟨_, get?_update_seq ho3 fun _ => #[]⟩
    have hz1 : ((s3.heap.push (seqObj "list" us.toArray 0)).update s3.heap.objs.size (Obj.mapSeq fun _ => (#[] : Array Value))).objs.size = s3.heap.objs.size + 1 := by rw [Heap.size_update, size_push']
    refine wpAny_bind (listItems_at ho3 rfl ?_)
    refine wpAny_bind (listUpdate_at ho3 rfl ?_ (by rw [List.size_toArray]; exact hul) (Nat.zero_le _))
    refine wpAny_bind (seqEpoch_at ho1 rfl ?_)
    refine wpAny_bind (wpAny_newTuple ?_ (by show us.length ≤ _; exact hul))
    refine wpAny_bind (wpAny_newList ?_ (Nat.zero_le _))
    refine wpAny_holding ?_
    have keep : ∀ b o, s3.heap.get? b = some o → (((((s3.heap.push (seqObj "list" us.toArray 0)).update s3.heap.objs.size (Obj.mapSeq fun _ => (#[] : Array Value))).push (seqObj "tuple" us.toArray 0)).push (seqObj "list" #[] 0))).get? b = some o := fun b o e =>
      Heap.get?_push_of_some _ (Heap.get?_push_of_some _ ((s1'.2 b (Nat.ne_of_lt (Heap.lt_size e))).trans (Heap.get?_push_of_some _ e)))
    have hkS : (((s3.heap.push (seqObj "list" us.toArray 0)).update s3.heap.objs.size (Obj.mapSeq fun _ => (#[] : Array Value))).push (seqObj "tuple" us.toArray 0)).objs.size = s3.heap.objs.size + 2 := by rw [size_push', hz1]
    have I4 := I3.kept (t' := s3.toks) keep
    have hf3 := keep _ _ (kp3 _ _ hf)
    have flt : f < s3.heap.objs.size := Heap.lt_size (kp3 _ _ hf)
    have KC' : KyC (in1X X) k params body scope a j fe := ⟨KC.calm, Room.in1 hr3, KC.sc, KC.nd, KC.bind, KC.body⟩
    refine sk_rest (X := in1X X) (a := s3.heap.objs.size) (c := c0) (xs := xs) (ds := ds) KC' Z2 hco hfr.1 (inv_in1 I4) ⟨fun b hb => ?_, ?_, fpf, fun z => ?_, fun z => ?_, ?_⟩ hf3 (Heap.get?_push_of_some _ (Heap.get?_push_of_some _ ho1)) (Heap.get?_push_size _ rfl) rv fx2 hfr.2 er hso fun s' H' ys I' k' hn' fy => ?_
    · rw [List.mem_singleton.mp hb]
      exact I3.fpOk (Nat.le_refl _) hD
    · exact I3.fpOk (by rw [hkS]; omega) (I3.hok.fresh (by rw [hkS]; omega))
    · have z : s3.heap.objs.size + 2 = s3.heap.objs.size := hkS.symm.trans (List.mem_singleton.mp z)
      exact absurd z (by omega)
    · have z : f = s3.heap.objs.size := List.mem_singleton.mp z
      exact absurd flt (by rw [z]; exact Nat.lt_irrefl _)
    · intro z
      have z : f = s3.heap.objs.size + 2 := z.trans hkS
      exact absurd flt (Nat.not_lt.mpr (by rw [z]; exact Nat.le_add_right _ 2))
    · have kall := (k1.trans k2).trans k'
      have I6 : Inv X pins σ (upd H' s3.heap.objs.size (.lst ys)) s' := inv_out1 I.ok.hd I.ok.frames I'
      refine ⟨_, rfl, wpAny_pure ⟨_, rfl, .ref _, upd H' s3.heap.objs.size (.lst ys), I6, rfl, fin_lst (Z2.kp k') (fun v' H'' kk r => q v' H'' (kall.trans kk) (AvR.base kall.k r)) fy _ hn'⟩⟩
end
end DL
namespace DL
open PySem PySem.Spec PyProof.Rows L2 PySem.W
def ordR (b : Bool) (x y : PyData) : Bool := sortLe (listOrd itemOrd) b keyToks x y
/-- sorted(it), sorted(it, reverse=True) -/
def eSortC (b : Bool) (it : AE → Rs (List PyData)) : AE → Rs AV := fun s => (it s).bind fun ds => if lenOk ds.length ∧ so2 ds = true then .ok (dn (.list (ds.mergeSort (ordR b)))) else .st
section
variable {X : Cx} {σ : L2.St} {pins : List (Addr × Obj)}
/-- the call itself -/
theorem sc_call {b : Bool} {k : Nat} {kw : List (Str × Value)} {c : RC} {σa : AE} {H : Hp} {ds : List PyData} {xs : List V} {s : Shared} {l : Addr} {P : Addr} {Q : VK} {E : Value → Shared → Prop} (hr : Room k X.A) (Z : Rst X.K c H σa σ) (I : Inv X pins σ H s) (hT : TabC H P) (lat : ColI X pins σ (.ref l) H s xs) (fx : FzA X.K (Pr c σa σ) H xs ds) (hl : lenOk ds.length) (ho : so2 ds = true)
    (ha1 : ∀ l, argsOk "sorted" ⟨[.ref l], kw⟩) (ha2 : ∀ x, argsOk "list.sort" ⟨[.ref x], kw⟩) (hkw : ∀ a, Builtin.«list.sort» ⟨[.ref a], kw⟩ = Builtin.«list.sort» ⟨[.ref a], [(Str.ofString "reverse", .bool b)]⟩)
    (q : ∀ p ys, H p = none → FzA X.K (Pr c σa σ) H ys (ds.mergeSort (ordR b)) → Q (.ref p) (upd H p (.lst ys))) :
    wpAny (model X.prog X.w) X.A (call (.builtin "sorted") [.ref l] kw) (EP X pins σ Q) E s := by
  refine call_function_entry_kw kind_sorted plain_sorted entry_sorted (ha1 _) ?_
  unfold Builtin.«sorted»
  refine wpAny_bind (m := checkCount "sorted" 1 1 _) (wpAny_pure ?_)
  refine wpAny_bind (lat P H s _ _ I hT ⟨hT, fun a ha hn => rfl⟩ (by rw [fx.length]; exact hl) (fun b o _ e => e) fun us s3 I3 rv kp3 => ?_)
  have hul : us.length ≤ sizeLine := by rw [← rv.length, fx.length]; exact hl.line
  refine wpAny_bind (wpAny_newList ?_ hul)
  have hD : H s3.heap.objs.size = none := I3.hok.fresh (Nat.le_refl _)
  have ho3 : (s3.heap.push (seqObj "list" us.toArray 0)).get? s3.heap.objs.size = some (seqObj "list" us.toArray 0) := Heap.get?_push_size _ rfl
  refine wpAny_bind (wpAny_holding (wpAny_call_entry_kw slot_list_sort ⟨_, ho3, rfl⟩ entry_list_sort ?body (ha2 _)))
  case body =>
    rw [hkw]
    have I4 : Inv X pins σ H { s3 with heap := s3.heap.push (seqObj "list" us.toArray 0) } := I3.kept (t' := s3.toks) fun b o e => Heap.get?_push_of_some _ e
    obtain ⟨h1, h2, h3⟩ := so2_ok ho
    obtain ⟨as, hra⟩ := Dp.readsAll I3 _ _ _ fx.dp rv
    have hne : ∀ b o, s3.heap.get? b = some o → b ≠ s3.heap.objs.size := fun b o e => Nat.ne_of_lt (Heap.lt_size e)
    have e0 : EachIs (fun v d => ∃ as, Reads (sortingHeap (s3.heap.push (seqObj "list" us.toArray 0)) s3.heap.objs.size us) v d as) us ds := each_mono (fun v d ⟨as, r⟩ => ⟨as, reads_keeps (fun b o e => sortingHeap_old (hne b o e) (Heap.get?_push_of_some _ e)) r⟩) (reads_each hra)
    refine list_sort_rev_vals (s := { s3 with heap := s3.heap.push (seqObj "list" us.toArray 0) }) ho3 (SortsAt.data (s := { s3 with heap := sortingHeap (s3.heap.push (seqObj "list" us.toArray 0)) s3.heap.objs.size us }) e0 h1 h2 fun d hd => ?_) hul ?_
    · have := hr.un
      have := h3 d hd
      show X.A.units + 1 + 1 + _ < _
      omega
    · obtain ⟨ys, ry, fy⟩ := each_back (sortVals_each (κ := dataKind (sortingHeap (s3.heap.push (seqObj "list" us.toArray 0)) s3.heap.objs.size us) ds) (rev := b) keyToks (each_tri rv fx) (each_mono (fun v d h => h) (eachKeys h1 e0)))
      obtain ⟨ep, he'⟩ := sortedHeap_at (h := s3.heap.push (seqObj "list" us.toArray 0)) (a := s3.heap.objs.size) (vs := us) (out := (sortVals (dataKind (sortingHeap (s3.heap.push (seqObj "list" us.toArray 0)) s3.heap.objs.size us) ds) b us us).toArray) ho3
      have hl2 : ys.length ≤ sizeLine := by rw [ry.length, sortVals_length b rfl]; exact hul
      refine ⟨_, rfl, wpAny_pure ⟨_, rfl, .ref _, upd H s3.heap.objs.size (.lst ys), I3.laid (t' := s3.toks) (fun b o e => ?_) (Nat.le_refl _) ⟨hl2, _, ep, ry, he'⟩, rfl, q _ ys hD fy⟩⟩
      rw [sortedHeap_old (hne b o e) (by rw [size_push']; exact Nat.lt_succ_of_lt (Heap.lt_size e))]
      exact Heap.get?_push_of_some _ e
theorem sc_go {W : WX} {b : Bool} {k : Nat} {kw : List (Str × Value)} {it : AE → Rs (List PyData)} {iter : Expr} {P : Addr} {s : Shared} {H : Hp} {Q : VK} {M : Value → Shared → Prop} (hr : Room k X.A) (hP : P ∈ TabsOf X.K) (hi : DCo X W iter it) (I : Inv X pins σ H s) (h : tD X.K W (eSortC b it) σ H Q)
    (ha1 : ∀ l, argsOk "sorted" ⟨[.ref l], kw⟩) (ha2 : ∀ x, argsOk "list.sort" ⟨[.ref x], kw⟩) (hkw : ∀ a, Builtin.«list.sort» ⟨[.ref a], kw⟩ = Builtin.«list.sort» ⟨[.ref a], [(Str.ofString "reverse", .bool b)]⟩)
    (hM : ∀ v s1, wpAny (model X.prog X.w) X.A (call (.builtin "sorted") [v] kw) (EP X pins σ Q) X.xe s1 → M v s1) :
    wpAny (model X.prog X.w) X.A (eval iter X.env) M X.xe s := by
  obtain ⟨c0, σa, Z, q⟩ := h
  refine thn (hi.run pins s σ H (fun xs H1 => ∃ ds, Kp c0.tabs H H1 ∧ FzA X.K (Pr c0 σa σ) H1 xs ds ∧ Go X.K W c0 σ H (if lenOk ds.length ∧ so2 ds = true then .ok (dn (.list (ds.mergeSort (ordR b)))) else .st : Rs AV) fun av => ∀ v H', Kp c0.tabs H H' → AvR X.K c0 σa σ H H' av v → Q v H') I ⟨c0, σa, Z, (Go.bind q).mono fun ds q xs H1 k1 y => ⟨ds, k1, y, q⟩⟩) fun v s1 ⟨l, xs, H1, ev, I1, lat, ds, k1, fx, q⟩ => hM v s1 ?_
  subst ev
  have hfr : lenOk ds.length ∧ so2 ds = true := by
    by_cases hc : lenOk ds.length ∧ so2 ds = true
    · exact hc
    · rw [if_neg hc] at q; exact q.elim
  rw [if_pos hfr] at q
  have q : ∀ v H', Kp c0.tabs H H' → AvR X.K c0 σa σ H H' (dn (.list (ds.mergeSort (ordR b)))) v → Q v H' := q
  have Z1 := Z.kp k1
  have hT : TabC H1 P := Z1.tab P (by rw [Z1.tabE]; exact hP)
  exact sc_call hr Z1 I1 hT lat fx hfr.1 hfr.2 ha1 ha2 hkw fun p ys hp fy => fin_lst Z1 (fun v' H'' kk r => q v' H'' (k1.trans kk) (AvR.base k1.k r)) fy p hp
theorem de_sortC {W : WX} {k : Nat} {it : AE → Rs (List PyData)} {iter : Expr} {P : Addr} {p pos : Pos} (hr : Room k X.A) (hP : P ∈ TabsOf X.K) (hg : Gl X "sorted") (hm : X.mg "sorted" = none) (hi : DCo X W iter it) (he : starEach [iter] X.env = [(false, eval iter X.env)] := by rfl) (he' : backTo pos (starEach [iter] X.env) = (false, eval iter X.env) :: backTo pos (starEach [] X.env) := by rfl) :
    DE X W (.Call (.Name "sorted" p) [iter] [] pos) (eSortC false it) := by
  refine ⟨fun pins s σ H Q I h => ?_⟩
  refine Call_ (ld_blt I hg hm boot_sorted (callWith_builtin1 ?_ he))
  rw [he']
  exact Calls.spliced_cons (sc_go hr hP hi I h (fun _ => args_sorted1 _) (fun _ => args_list_sort _) (fun a => plain_is_rev a) fun v s1 h => Calls.spliced_nil h)
theorem de_sortR {W : WX} {k : Nat} {it : AE → Rs (List PyData)} {iter : Expr} {P : Addr} {p pos kpos bpos : Pos} {b : Bool} {n : Nat} (hr : Room k X.A) (hP : P ∈ TabsOf X.K) (hg : Gl X "sorted") (hm : X.mg "sorted" = none) (hi : DCo X W iter it) (he : backTo pos (starEach [iter] X.env) = (false, eval iter X.env) :: backTo pos (starEach [] X.env) := by rfl) (hpl : (backTo pos (starEach [iter] X.env)).any (·.1) = false := by rfl) :
    DE X W (.Call (.Name "sorted" p) [iter] [⟨some (Str.ofString "reverse"), .Constant (.bool b) n bpos, kpos⟩] pos) (eSortC b it) := by
  refine ⟨fun pins s σ H Q I h => ?_⟩
  refine wpAny_Call_Name_kw (ld_blt I hg hm boot_sorted ?_)
  refine PyProof.Rows.callWith_kw ?_ he hpl rfl rfl
  rw [he]
  refine Calls.spliced_cons (sc_go hr hP hi I h (fun _ => args_sorted_rev _ _) (fun _ => args_list_sort_rev _ _) (fun a => rfl) fun v s1 h => Calls.spliced_nil (kwAll_cons (Constant_bool (kwAll_nil h))))
end
end DL
namespace DL
open PySem PySem.Spec PyProof.Rows L2
def eLR (it : AE → Rs (List PyData)) : AE → Rs AV := fun s => (it s).bind fun ds => if lenOk ds.length then .ok (dn (.list ds)) else .st
def eTR (it : AE → Rs (List PyData)) : AE → Rs AV := fun s => (it s).bind fun ds => if lenOk ds.length then .ok (dv (.tuple ds)) else .st
section
variable {X : Cx} {W : WX} {a b : Expr} {g h : AE → Rs PyData} {p p2 q pos : Pos}
theorem rgOk_of {n m : Int} (hn : rgOk n m) (hl : lenOk (rgD n m).length) : RgOk n m := by
  obtain ⟨h1, h2, h3, h4⟩ := hn.lt
  have := hl.le
  unfold rgD at this
  rw [List.length_map, List.length_range] at this
  exact ⟨by omega, by omega, by omega, by omega, by omega⟩
theorem rg_end {K : Fr} {c : RC} {σa : AE} {σ : L2.St} {H H1 : Hp} {Q : VK} {n m : Int} {av : Bool} (Z : Rst K c H σa σ) (k1 : Kp c.tabs H H1) (hn : rgOk n m)
    (q : Go K W c σ H (if lenOk (rgD n m).length then .ok (dn (.list (rgD n m))) else .st : Rs AV) fun av => ∀ v H', Kp c.tabs H H' → AvR K c σa σ H H' av v → Q v H') :
    RgOk n m ∧ ∀ q, H1 q = none → Q (.ref q) (upd H1 q (.lst (rgV n m))) := by
  by_cases hl : lenOk (rgD n m).length
  · rw [if_pos hl] at q
    have q : ∀ v H', Kp c.tabs H H' → AvR K c σa σ H H' (dn (.list (rgD n m))) v → Q v H' := q
    refine ⟨rgOk_of hn hl, fun p hp => fin_lst (Z.kp k1) (fun v' H'' kk r => q v' H'' (k1.trans kk) (AvR.base k1.k r)) ?_ p hp⟩
    unfold rgD rgV
    have := FzA.ints (K := K) (Pr c σa σ) H1 ((List.range (m - n).toNat).map fun k : Nat => n + (k : Nat))
    rw [List.map_map, List.map_map] at this
    exact this
  · rw [if_neg hl] at q
    exact q.elim
theorem rg_endT {K : Fr} {c : RC} {σa : AE} {σ : L2.St} {H H1 : Hp} {Q : VK} {n m : Int} {av : Bool} (Z : Rst K c H σa σ) (k1 : Kp c.tabs H H1) (hn : rgOk n m)
    (q : Go K W c σ H (if lenOk (rgD n m).length then .ok (dv (.tuple (rgD n m))) else .st : Rs AV) fun av => ∀ v H', Kp c.tabs H H' → AvR K c σa σ H H' av v → Q v H') :
    RgOk n m ∧ ∀ q, H1 q = none → Q (.ref q) (upd H1 q (.tup (rgV n m))) := by
  by_cases hl : lenOk (rgD n m).length
  · rw [if_pos hl] at q
    have q : ∀ v H', Kp c.tabs H H' → AvR K c σa σ H H' (dv (.tuple (rgD n m))) v → Q v H' := q
    refine ⟨rgOk_of hn hl, fun p hp => fin_tup (Z.kp k1) (fun v' H'' kk r => q v' H'' (k1.trans kk) (AvR.base k1.k r)) ?_ p hp⟩
    unfold rgD rgV
    have := FzA.ints (K := K) (Pr c σa σ) H1 ((List.range (m - n).toNat).map fun k : Nat => n + (k : Nat))
    rw [List.map_map, List.map_map] at this
    exact this
  · rw [if_neg hl] at q
    exact q.elim
theorem de_listRg1 (hc : X.calm = true) (hg : Gl X "list") (hm : X.mg "list" = none) (hgr : Gl X "range") (hmr : X.mg "range" = none) (ha : DR X W a g) (hs : starEach [a] X.env = (false, eval a X.env) :: starEach [] X.env := by rfl)
    (na : starEach [.Call (.Name "range" p2) [a] [] q] X.env = (false, eval (.Call (.Name "range" p2) [a] [] q) X.env) :: starEach [] X.env := by rfl) : DE X W (.Call (.Name "list" p) [.Call (.Name "range" p2) [a] [] q] [] pos) (eLR (iRg1 g)) :=
  pe_mono (pe_listRg hc hg hm (prg_1 hgr hmr ha hs) na) fun σ H Q ⟨c, σa, Z, z⟩ => ⟨c, σa, Z, (Go.bind (Go.bind z)).mono fun d z v H1 k1 r1 => by
    split at z
    · rename_i n
      split at z
      · rename_i hn
        cases br_int r1
        exact ⟨n, rfl, rg_end (av := true) Z k1 hn z⟩
      · exact z.elim
    · exact z.elim⟩
theorem de_tupRg1 (hc : X.calm = true) (hg : Gl X "tuple") (hm : X.mg "tuple" = none) (hgr : Gl X "range") (hmr : X.mg "range" = none) (ha : DR X W a g) (hs : starEach [a] X.env = (false, eval a X.env) :: starEach [] X.env := by rfl)
    (na : starEach [.Call (.Name "range" p2) [a] [] q] X.env = (false, eval (.Call (.Name "range" p2) [a] [] q) X.env) :: starEach [] X.env := by rfl) : DE X W (.Call (.Name "tuple" p) [.Call (.Name "range" p2) [a] [] q] [] pos) (eTR (iRg1 g)) :=
  pe_mono (pe_tupRg hc hg hm (prg_1 hgr hmr ha hs) na) fun σ H Q ⟨c, σa, Z, z⟩ => ⟨c, σa, Z, (Go.bind (Go.bind z)).mono fun d z v H1 k1 r1 => by
    split at z
    · rename_i n
      split at z
      · rename_i hn
        cases br_int r1
        exact ⟨n, rfl, rg_endT (av := true) Z k1 hn z⟩
      · exact z.elim
    · exact z.elim⟩
theorem de_listRg2 (hc : X.calm = true) (hg : Gl X "list") (hm : X.mg "list" = none) (hgr : Gl X "range") (hmr : X.mg "range" = none) (ha : DR X W a g) (hb : DR X W b h) (hs : starEach [a, b] X.env = (false, eval a X.env) :: starEach [b] X.env := by rfl) (hs2 : starEach [b] X.env = (false, eval b X.env) :: starEach [] X.env := by rfl)
    (na : starEach [.Call (.Name "range" p2) [a, b] [] q] X.env = (false, eval (.Call (.Name "range" p2) [a, b] [] q) X.env) :: starEach [] X.env := by rfl) : DE X W (.Call (.Name "list" p) [.Call (.Name "range" p2) [a, b] [] q] [] pos) (eLR (iRg2 g h)) :=
  pe_mono (pe_listRg hc hg hm (prg_2 hgr hmr ha hb hs hs2 (by rw [hs2]; rfl)) na) fun σ H Q ⟨c, σa, Z, z⟩ => ⟨c, σa, Z, (Go.bind (Go.bind z)).mono fun d z v H1 k1 r1 => ⟨c, σa, Z.kp k1, ((Go.bind z).later k1).mono fun e z w H2 k2 r2 => by
    obtain ⟨n, m, rfl, rfl, hn, z⟩ := rg2_ok z
    cases br_int r1; cases br_int r2
    exact ⟨n, m, rfl, rfl, rg_end (av := true) Z (k1.trans k2) hn z⟩⟩⟩
theorem de_tupRg2 (hc : X.calm = true) (hg : Gl X "tuple") (hm : X.mg "tuple" = none) (hgr : Gl X "range") (hmr : X.mg "range" = none) (ha : DR X W a g) (hb : DR X W b h) (hs : starEach [a, b] X.env = (false, eval a X.env) :: starEach [b] X.env := by rfl) (hs2 : starEach [b] X.env = (false, eval b X.env) :: starEach [] X.env := by rfl)
    (na : starEach [.Call (.Name "range" p2) [a, b] [] q] X.env = (false, eval (.Call (.Name "range" p2) [a, b] [] q) X.env) :: starEach [] X.env := by rfl) : DE X W (.Call (.Name "tuple" p) [.Call (.Name "range" p2) [a, b] [] q] [] pos) (eTR (iRg2 g h)) :=
  pe_mono (pe_tupRg hc hg hm (prg_2 hgr hmr ha hb hs hs2 (by rw [hs2]; rfl)) na) fun σ H Q ⟨c, σa, Z, z⟩ => ⟨c, σa, Z, (Go.bind (Go.bind z)).mono fun d z v H1 k1 r1 => ⟨c, σa, Z.kp k1, ((Go.bind z).later k1).mono fun e z w H2 k2 r2 => by
    obtain ⟨n, m, rfl, rfl, hn, z⟩ := rg2_ok z
    cases br_int r1; cases br_int r2
    exact ⟨n, m, rfl, rfl, rg_endT (av := true) Z (k1.trans k2) hn z⟩⟩⟩
end
end DL
namespace DL
open PySem PySem.Spec PyProof.Rows L2
theorem ordR_f : ordR false = ordD := rfl
theorem eSortC_ok {b : Bool} {it : AE → Rs (List PyData)} {s : AE} {ds : List PyData} (h : it s = .ok ds) (hl : lenOk ds.length) (ho : so2 ds = true) : eSortC b it s = .ok (dn (.list (ds.mergeSort (ordR b)))) := by
  unfold eSortC
  rw [h]
  show (if _ then _ else _) = _
  rw [if_pos ⟨hl, ho⟩]
theorem eSortC_ints {it : AE → Rs (List PyData)} {s : AE} {l : List Int} (h : it s = .ok (l.map .int)) (hl : lenOk l.length) : eSortC false it s = .ok (dn (.list ((srtI l).map .int))) := by
  rw [eSortC_ok h (by rw [List.length_map]; exact hl) (so2_ints l), ordR_f, sort_map .int (fun a b => decide (a ≤ b)) ordD_i]
  rfl
theorem iCo_l {g : AE → Rs PyData} {s : AE} {l : List PyData} (h : g s = .ok (.list l)) : iCo g s = .ok l := by unfold iCo; rw [h]; rfl
theorem iCo_t {g : AE → Rs PyData} {s : AE} {l : List PyData} (h : g s = .ok (.tuple l)) : iCo g s = .ok l := by unfold iCo; rw [h]; rfl
section
variable {α : Type} {emb key : α → PyData}
theorem mapK_map {kf : PyData → Rs PyData} : ∀ l : List α, (∀ a ∈ l, kf (emb a) = .ok (key a)) → mapK kf (l.map emb) = .ok (l.map key)
  | [], _ => rfl
  | a :: l, h => by
    show (kf (emb a)).bind _ = _
    rw [h a List.mem_cons_self, Rs.bind_ok, mapK_map l fun b hb => h b (List.mem_cons_of_mem _ hb)]
    rfl
theorem zip_maps {α β γ : Type} (f : α → β) (g : α → γ) : ∀ l : List α, (l.map f).zip (l.map g) = l.map fun a => (f a, g a)
  | [] => rfl
  | a :: l => by rw [List.map_cons, List.map_cons, List.zip_cons_cons, zip_maps f g l]; rfl
theorem eSortK_map {it : AE → Rs (List PyData)} {j : Nat} {fe : AE → Rs AV} {s : AE} (l : List α) (le : α → α → Bool) (hit : it s = .ok (l.map emb)) (hf : free1 s j = true) (hl : lenOk l.length) (hk : ∀ a ∈ l, kfD fe (wipeA s [j]) j (emb a) = .ok (key a)) (ho : so2 (l.map key) = true) (hle : ∀ a b, ordD (key a) (key b) = le a b) :
    eSortK it j fe s = .ok (dn (.list ((l.mergeSort le).map emb))) := by
  unfold eSortK
  rw [hit]
  show (if free1 s j = true ∧ lenOk (l.map emb).length then _ else _) = _
  rw [if_pos ⟨hf, by rw [List.length_map]; exact hl⟩, mapK_map l hk]
  show (if so2 (l.map key) = true then _ else _) = _
  rw [if_pos ho, zip_maps]
  have : (l.map fun a => (emb a, key a)).mergeSort sortKD = (l.mergeSort le).map fun a => (emb a, key a) := by
    symm
    apply List.map_mergeSort
    intro a _ b _
    exact (hle a b).symm
  rw [this, List.map_map]
  rfl
end
theorem ordD_pr (p q : Int × Int) : ordD (prD p) (prD q) = !SrtO.lexB q p := by rw [ordD_eq, dataLt_pr]
end DL
namespace DL
open PySem PySem.Spec PyProof.Rows L2
theorem tuple_mul1 (l : Addr) (items : Array Value) (n : Nat) (dd : Option Addr) (sl : Array (Option Value)) (u : Tok) :
    Meets (Builtin.«tuple.__mul__» ⟨[.ref l, .int 1 u], []⟩) (fun _ R s => s.heap.get? l = some { cls := .type "tuple", dict := dd, data := .seq items n, slots := sl } ∧ R (.ok (.ret (Value.ref l))) s) :=
  .of_wp fun prog w A R s h => by
    obtain ⟨hp, g, d, tk, os⟩ := s
    obtain ⟨hl, h⟩ := h
    have f1 := AutoSeq1.idx_int
    have e : (items.isEmpty || (1 : Int) == 1) = true := by
      have : ((1 : Int) == 1) = true := by decide
      rw [this, Bool.or_true]
    wp_walk using wpAny_loadPart' hl
    repeat (first
      | (refine wpAny_ite_true (decide_eq_true e) ?_; wp_walk using wpAny_loadPart' hl)
      | (refine wpAny_ite_true (by simpa using e) ?_; wp_walk using wpAny_loadPart' hl))
    exact ⟨_, rfl, h⟩
def rRep1 (K : Fr) : R2 := fun x y H Q => ∃ l xs, x = .ref l ∧ y = .int 1 ∧ SqT K H l xs ∧ Q (.ref l) H
section
variable {X : Cx}
theorem op_rep1 : OpR X (binaryOp .Mult) (rRep1 X.K) := by
  intro pins s σ H x y v u Q I rx ry h
  obtain ⟨l, xs, rfl, rfl, hT, q⟩ := h
  cases rx
  obtain ⟨t, rfl⟩ := ry
  obtain ⟨its, r, ⟨⟨cls, dd, data, sl⟩, ho, hc, n, hd⟩, hs⟩ := I.tuple hT
  simp only at hc hd
  subst hc hd
  refine wpAny_binaryOp_repeat_ref (T := "tuple") (U := "int") (by decide) ⟨_, ho, rfl⟩ (fun s' => typeIs_int s' 1 t) noFill_tuple_mul F.fills_int_mul F.slot_int_rmul repeat_tuple F.slot_int_index.lookup
    (call_meets F.slot_int_rmul (typeIs_int s 1 t) F.entry_int_rmul (F.args_int_rmul_2 _ _) (int_rmul_tuple 1 t l its.toArray n dd sl)
      ⟨ho, rfl, ⟨_, ho, rfl⟩, call_meets F.slot_tuple_mul ⟨_, ho, rfl⟩ F.entry_tuple_mul (F.args_tuple_mul_2 _ _) (tuple_mul1 l its.toArray n dd sl t) ⟨ho, ?_⟩⟩)
  exact ⟨.ref l, H, I, rfl, q⟩
end
/-- a tuple times k -/
def mulTD : PyData → PyData → Option AV
  | .tuple x, .int k => if x.isEmpty = false ∧ 1 ≤ k ∧ k ≤ 60 ∧ x.length ≤ 60 then some (dv (.tuple (List.replicate k.toNat x).flatten)) else none
  | _, _ => none
section
variable {X : Cx} {W : WX} {a b : Expr} {ga gb : AE → Rs PyData} {pos : Pos}
theorem b2_mulT {K : Fr} : B2 K mulTD (fun x y H Q => rRep1 K x y H Q ∨ rRepT K x y H Q) := by
  intro c σa σ H v w d e av Q Z h1 h2 ev q
  unfold mulTD at ev
  split at ev
  · rename_i x k
    obtain ⟨⟨k0, k1, k2, k3⟩, rfl⟩ := ite_some ev
    obtain ⟨l, xs, rfl, s1, f1⟩ := br_tup h1
    cases br_int h2
    have e1 := f1.length
    by_cases g : k = 1
    · subst g
      refine .inl ⟨l, xs, rfl, rfl, s1, fin_v Z q ?_⟩
      have e : (List.replicate (1 : Int).toNat x).flatten = x := by simp
      rw [e]
      exact .tup s1 f1
    · refine .inr ⟨l, k, xs, rfl, rfl, s1, fun z => ?_, by omega, by omega, by omega, fun p hp => fin_tup Z q f1.flat p hp⟩
      rw [z] at e1
      cases x with
      | nil => cases k0
      | cons y x => simp at e1
  · cases ev
theorem de_mulT (ha : DR X W a ga) (hb : DR X W b gb) : DE X W (.BinOp a .Mult b pos) (eB mulTD ga gb) := de_op (op_rep1.or op_repT) b2_mulT ha hb
end
theorem mulT_1 (x : PyData) {m : Nat} (h : 1 ≤ m ∧ m ≤ 60) : mulTD (.tuple [x]) (.int (m : Int)) = some (dv (.tuple ((List.range m).map fun _ => x))) := by
  show (if _ then _ else _) = _
  rw [if_pos ⟨rfl, by omega, by omega, by simp⟩, Int.toNat_natCast]
  congr 3
  have : ∀ m : Nat, (List.replicate m [x]).flatten = (List.range m).map fun _ => x := fun m => by
    induction m with
    | zero => rfl
    | succ m ih => rw [List.replicate_succ', List.flatten_append, ih, List.range_succ, List.map_append]; rfl
  exact this m
end DL
namespace DL
open PySem PySem.Spec PyProof.Rows L2
def kOf : PyData → Option Key
  | .int i => some (.inl i)
  | .str x => some (.inr x)
  | _ => none
theorem kOf_keyD (k : Key) : kOf (keyD k) = some k := by cases k <;> rfl
def kIs (k : Key) (p : PyData × PyData) : Bool := decide (kOf p.1 = some k)
/-- what stands under k -/
def dlk (kvs : List (PyData × PyData)) (k : Key) : Option PyData := (kvs.find? (kIs k)).map (·.2)
/-- d under k: in its place, or at the end -/
def dput (kvs : List (PyData × PyData)) (k : Key) (d : PyData) : List (PyData × PyData) := if kvs.any (kIs k) = true then kvs.map fun p => if kIs k p = true then (p.1, d) else p else kvs ++ [(keyD k, d)]
def isK (kvs : List (PyData × PyData)) : Bool := kvs.all fun p => (kOf p.1).isSome
/-- what stands under k in d: none: not known here -/
def dLook : PyData → PyData → Option (Option PyData)
  | .dict kvs, k => if isK kvs = true then (kOf k).map fun q => dlk kvs q else none
  | _, _ => none
structure Al (K : Fr) (P : Pd) (H : Hp) (l : List (Key × V)) (kvs : List (PyData × PyData)) : Prop where
  keys : kvs.map (·.1) = l.map fun p => keyD p.1
  vals : FzA K P H (l.map (·.2)) (kvs.map (·.2))
section
variable {K : Fr} {P : Pd} {H H' : Hp}
theorem al_nil : Al K P H [] [] := ⟨rfl, .nil⟩
theorem al_cons {l : List (Key × V)} {kvs : List (PyData × PyData)} {p : Key × V} {q : PyData × PyData} : Al K P H (p :: l) (q :: kvs) ↔ (q.1 = keyD p.1 ∧ Fz K P H p.2 q.2) ∧ Al K P H l kvs := by
  constructor
  · rintro ⟨h1, h2⟩
    simp only [List.map_cons, List.cons.injEq] at h1
    cases h2 with
    | cons a b => exact ⟨⟨h1.1, a⟩, h1.2, b⟩
  · rintro ⟨⟨h1, h2⟩, h3, h4⟩
    exact ⟨by rw [List.map_cons, List.map_cons, h1, h3], .cons h2 h4⟩
theorem kIs_key {k j : Key} {q : PyData × PyData} (h : q.1 = keyD j) : kIs k q = decide (j = k) := by
  unfold kIs
  rw [h, kOf_keyD]
  by_cases e : j = k
  · rw [e]; simp
  · rw [decide_eq_false e]
    exact decide_eq_false fun z => e (Option.some.inj z)
theorem al_lk {k : Key} : ∀ {l : List (Key × V)} {kvs : List (PyData × PyData)}, Al K P H l kvs → (valV l k = none ∧ dlk kvs k = none) ∨ ∃ v d, valV l k = some v ∧ dlk kvs k = some d ∧ Fz K P H v d
  | [], [], _ => .inl ⟨rfl, rfl⟩
  | [], _ :: _, h => by have := h.keys; simp at this
  | _ :: _, [], h => by have := h.keys; simp at this
  | p :: l, q :: kvs, h => by
    obtain ⟨⟨h1, h2⟩, h3⟩ := al_cons.mp h
    have e := kIs_key (k := k) h1
    by_cases c : p.1 = k
    · refine .inr ⟨p.2, q.2, valV_pos c, ?_, h2⟩
      unfold dlk
      rw [List.find?_cons_of_pos (by rw [e]; exact decide_eq_true c)]
      rfl
    · rw [valV_neg c]
      have e2 : dlk (q :: kvs) k = dlk kvs k := by
        unfold dlk
        rw [List.find?_cons_of_neg (by rw [e]; simp [c])]
      rw [e2]
      exact al_lk h3
theorem al_any {k : Key} : ∀ {l : List (Key × V)} {kvs : List (PyData × PyData)}, Al K P H l kvs → (l.any fun kv => decide (kv.1 = k)) = kvs.any (kIs k)
  | [], [], _ => rfl
  | [], _ :: _, h => by have := h.keys; simp at this
  | _ :: _, [], h => by have := h.keys; simp at this
  | p :: l, q :: kvs, h => by
    obtain ⟨⟨h1, h2⟩, h3⟩ := al_cons.mp h
    rw [List.any_cons, List.any_cons, al_any h3, kIs_key h1]
theorem al_map {k : Key} {v : V} {d : PyData} (f : Fz K P H v d) : ∀ {l : List (Key × V)} {kvs : List (PyData × PyData)}, Al K P H l kvs → Al K P H (l.map fun kv => if kv.1 = k then (kv.1, v) else kv) (kvs.map fun p => if kIs k p = true then (p.1, d) else p)
  | [], [], _ => al_nil
  | [], _ :: _, h => by have := h.keys; simp at this
  | _ :: _, [], h => by have := h.keys; simp at this
  | p :: l, q :: kvs, h => by
    obtain ⟨⟨h1, h2⟩, h3⟩ := al_cons.mp h
    have e := kIs_key (k := k) h1
    rw [List.map_cons, List.map_cons]
    refine al_cons.mpr ⟨?_, al_map f h3⟩
    by_cases c : p.1 = k
    · rw [if_pos c, if_pos (by rw [e]; exact decide_eq_true c)]
      exact ⟨h1, f⟩
    · rw [if_neg c, if_neg (by rw [e]; simp [c])]
      exact ⟨h1, h2⟩
theorem al_app {l : List (Key × V)} {kvs : List (PyData × PyData)} {k : Key} {v : V} {d : PyData} (h : Al K P H l kvs) (f : Fz K P H v d) : Al K P H (l ++ [(k, v)]) (kvs ++ [(keyD k, d)]) :=
  ⟨by rw [List.map_append, List.map_append, h.keys]; rfl, by rw [List.map_append, List.map_append]; exact h.vals.append (.cons f .nil)⟩
theorem al_put {l : List (Key × V)} {kvs : List (PyData × PyData)} {k : Key} {v : V} {d : PyData} (h : Al K P H l kvs) (f : Fz K P H v d) : Al K P H (putK l k v) (dput kvs k d) := by
  unfold putK dput
  rw [al_any h]
  split
  · exact al_map f h
  · exact al_app h f
theorem Al.keep0 {l : List (Key × V)} {kvs : List (PyData × PyData)} (k : Keep P0 H H') (h : Al K P H l kvs) : Al K P H' l kvs := ⟨h.keys, h.vals.keep0 k⟩
theorem Al.mono {P' : Pd} {l : List (Key × V)} {kvs : List (PyData × PyData)} (k : Keep P H H') (hp : ∀ a, P' a → P a ∨ H a = none) (h : Al K P H l kvs) : Al K P' H' l kvs := ⟨h.keys, h.vals.mono k hp⟩
theorem Al.length {l : List (Key × V)} {kvs : List (PyData × PyData)} (h : Al K P H l kvs) : l.length = kvs.length := by
  have := congrArg List.length h.keys
  simpa using this.symm
theorem cont_al {o : HO} {kvs : List (PyData × PyData)} (h : Cont K P H o (.dict kvs)) (hk : isK kvs = true) : ∃ l, o = .dK l ∧ Al K P H l kvs := by
  cases h with
  | dK a b => exact ⟨_, rfl, a, b⟩
  | dT a b => exact absurd hk (by simp [isK, kOf])
theorem al_cont {l : List (Key × V)} {kvs : List (PyData × PyData)} (h : Al K P H l kvs) : Cont K P H (.dK l) (.dict kvs) := .dK h.keys h.vals
theorem br_key {w : V} {k : PyData} {q : Key} (h : Br K P H w k) (e : kOf k = some q) : w = kV q := by
  cases k with
  | int i => cases e; cases br_int h; rfl
  | str x =>
    cases e
    have h := br_fz h (fun _ z => nomatch z) (fun _ z => nomatch z)
    cases h
    rfl
  | _ => cases e
theorem look_ok {d k : PyData} {o : Option PyData} {v w : V} (h : dLook d k = some o) (hd : Br K P H v d) (hk : Br K P H w k) :
    ∃ a r, v = .ref a ∧ IsD H a ∧ DGet H a w r ∧ ((o = none ∧ r = none) ∨ ∃ x u, o = some x ∧ r = some u ∧ Fz K P H u x) := by
  cases d with
  | dict kvs =>
    have h : (if isK kvs = true then (kOf k).map fun q => dlk kvs q else none) = some o := h
    by_cases c : isK kvs = true
    · rw [if_pos c] at h
      cases e : kOf k with
      | none => rw [e] at h; cases h
      | some q =>
        rw [e] at h
        cases h
        obtain ⟨a, rfl, ob, r, co⟩ := br_dict hd
        obtain ⟨l, rfl, al⟩ := cont_al co c
        rw [br_key hk e]
        refine ⟨a, valV l q, rfl, .inl ⟨l, r.rd⟩, .inl ⟨l, q, r.rd, rfl, rfl⟩, ?_⟩
        rcases al_lk (k := q) al with ⟨h1, h2⟩ | ⟨u, x, h1, h2, h3⟩
        · exact .inl ⟨h2, h1⟩
        · exact .inr ⟨x, u, h2, h1, h3⟩
    · rw [if_neg c] at h
      cases h
  | _ => cases h
end
def dixD (d k : PyData) : Option AV := (dLook d k).bind fun o => o.map dv
def dinD (k d : PyData) : Option AV := (dLook d k).map fun o => dv (.bool o.isSome)
def dninD (k d : PyData) : Option AV := (dLook d k).map fun o => dv (.bool (!o.isSome))
def eDnew : AE → Rs AV := fun _ => .ok (dn (.dict []))
def isDk : PyData → Bool
  | .dict kvs => isK kvs
  | _ => false
/-- d.get(k, x) -/
def eDget (g h : AE → Rs PyData) (f : AE → Rs PyData) : AE → Rs AV := fun s => (g s).bind fun d => if isDk d = true then (h s).bind fun k => (f s).bind fun x => Rs.of ((dLook d k).map fun o => dv (o.getD x)) else .st
/-- the own dict of slot i, what becomes of it -/
def onD (i : Nat) (s : AE) (f : List (PyData × PyData) → SR) : SR := match s[i]? with
  | some (.o .ow (.dict l)) => if isK l = true then f l else .st
  | some (.o .io (.dict l)) => if isK l = true then f l else .st
  | _ => .st
theorem onD_case {K : Fr} {W : WX} {c : RC} {D : Ends} {i : Nat} {s : AE} {f : List (PyData × PyData) → SR} (h : GoS K W c D (onD i s f)) : ∃ k l, s[i]? = some (.o k (.dict l)) ∧ k ≠ .ln ∧ isK l = true ∧ GoS K W c D (f l) ∧ ∀ d, putL i s d = s.set i (.o k d) := by
  unfold onD at h
  split at h
  · rename_i l e
    by_cases hk : isK l = true
    · rw [if_pos hk] at h
      exact ⟨_, l, e, (by intro z; cases z), hk, h, fun d => by unfold putL; rw [e]⟩
    · rw [if_neg hk] at h
      exact h.elim
  · rename_i l e
    by_cases hk : isK l = true
    · rw [if_pos hk] at h
      exact ⟨_, l, e, (by intro z; cases z), hk, h, fun d => by unfold putL; rw [e]⟩
    · rw [if_neg hk] at h
      exact h.elim
  · exact h.elim
/-- d[k] = e -/
def sDput (i : Nat) (gk ge : AE → Rs PyData) : SM := fun s => sB (ge s) s fun d => onD i s fun kvs => sB (gk s) s fun k => match kOf k with
  | some q => if lenOk (kvs.length + 1) then .nx (putL i s (.dict (dput kvs q d))) else .st
  | none => .st
section
variable {X : Cx} {W : WX} {e o ie a b : Expr} {g gk ga gb h f : AE → Rs PyData} {pos pos' apos cpos p : Pos} {i k : Nat} {x : PySem.Str}
theorem de_dnew : DE X W (.Dict [] [] pos) eDnew := pe_mono pe_dnewK fun σ H Q ⟨c, σa, Z, q⟩ p hp => by
  have q : ∀ v H', Kp c.tabs H H' → AvR X.K c σa σ H H' (dn (.dict [])) v → Q v H' := q
  have kp : Kp c.tabs H (upd H p (.dK [])) := Kp.new Z.tab hp
  exact q _ _ kp ⟨p, rfl, hp, _, upd_same, .dK rfl .nil⟩
theorem de_dix (hr : Room k X.A) (ho : DR X W o g) (hi : DR X W ie gk) (hs : NoSl ie := by intro _ _; rfl) : DE X W (.Subscript o ie pos) (eB dixD g gk) :=
  pe_mono (pe_dget (by have := hr.un; omega) ho hi hs) fun σ H Q ⟨c, σa, Z, q⟩ => ⟨c, σa, Z, (Go.bind (show Go X.K W c σ H ((g σa).bind fun d => (gk σa).bind fun e => Rs.of (dixD d e)) _ from q)).mono fun d q v H1 k1 r1 => ⟨c, σa, Z.kp k1, ((Go.bind q).later k1).mono fun e q w H2 k2 r2 => by
    obtain ⟨av, ev, q⟩ := go_of q
    unfold dixD at ev
    obtain ⟨oo, e1, ev⟩ := Option.bind_eq_some_iff.mp ev
    obtain ⟨a, r, rfl, hD, hg, hc⟩ := look_ok e1 (r1.keep0 k2.k) r2
    rcases hc with ⟨rfl, _⟩ | ⟨x, u, rfl, rfl, fz⟩
    · cases ev
    · cases ev
      exact ⟨a, u, rfl, hg, q _ H2 (k1.trans k2) fz⟩⟩⟩
theorem dc_din (hr : Room k X.A) (hm : behindInMarks .In b = false) (ha : DR X W a ga) (hb : DR X W b gb) : DC X W (.Compare a [.In] [b] pos) (eB dinD ga gb) :=
  ⟨_, pe_cmp (pc_din (by have := hr.un; omega) ha hb) hm, pt_mono (pt_cmp (pc_din (by have := hr.un; omega) ha hb) hm) fun σ H Q q => q, fun σ H Q ⟨c, σa, Z, q⟩ => ⟨c, σa, Z, (Go.bind (show Go X.K W c σ H ((ga σa).bind fun d => (gb σa).bind fun e => Rs.of (dinD d e)) _ from q)).mono fun d q v H1 k1 r1 => ⟨c, σa, Z.kp k1, ((Go.bind q).later k1).mono fun e q w H2 k2 r2 => by
    obtain ⟨av, ev, q⟩ := go_of q
    unfold dinD at ev
    cases e1 : dLook e d with
    | none => rw [e1] at ev; cases ev
    | some oo =>
      rw [e1] at ev
      cases ev
      obtain ⟨a, r, rfl, hD, hg, hc⟩ := look_ok e1 r2 (r1.keep0 k2.k)
      have e2 : oo.isSome = r.isSome := by
        rcases hc with ⟨rfl, rfl⟩ | ⟨x, u, rfl, rfl, _⟩ <;> rfl
      refine ⟨a, r, rfl, hg, q _ H2 (k1.trans k2) ?_⟩
      rw [← e2]
      exact show Fz _ _ _ _ _ from .bl _⟩⟩⟩
theorem dc_dnin (hr : Room k X.A) (hm : behindInMarks .NotIn b = false) (ha : DR X W a ga) (hb : DR X W b gb) : DC X W (.Compare a [.NotIn] [b] pos) (eB dninD ga gb) :=
  ⟨_, pe_cmp (pc_dnotin (by have := hr.un; omega) ha hb) hm, pt_mono (pt_cmp (pc_dnotin (by have := hr.un; omega) ha hb) hm) fun σ H Q q => q, fun σ H Q ⟨c, σa, Z, q⟩ => ⟨c, σa, Z, (Go.bind (show Go X.K W c σ H ((ga σa).bind fun d => (gb σa).bind fun e => Rs.of (dninD d e)) _ from q)).mono fun d q v H1 k1 r1 => ⟨c, σa, Z.kp k1, ((Go.bind q).later k1).mono fun e q w H2 k2 r2 => by
    obtain ⟨av, ev, q⟩ := go_of q
    unfold dninD at ev
    cases e1 : dLook e d with
    | none => rw [e1] at ev; cases ev
    | some oo =>
      rw [e1] at ev
      cases ev
      obtain ⟨a, r, rfl, hD, hg, hc⟩ := look_ok e1 r2 (r1.keep0 k2.k)
      have e2 : oo.isSome = r.isSome := by
        rcases hc with ⟨rfl, rfl⟩ | ⟨x, u, rfl, rfl, _⟩ <;> rfl
      refine ⟨a, r, rfl, hg, q _ H2 (k1.trans k2) ?_⟩
      rw [← e2]
      exact show Fz _ _ _ _ _ from .bl _⟩⟩⟩
theorem de_dget (hr : Room k X.A) (ho : DR X W o g) (he : DR X W a ga) (hf : DF X W b f) (m : M2 X o "get" apos a b cpos := by exact ⟨rfl, rfl, rfl, rfl⟩) : DE X W (.Call (.Attribute o "get" apos) [a, b] [] cpos) (eDget g ga f) :=
  pe_mono (pe_dget2 (by have := hr.un; omega) ho he hf m) fun σ H Q ⟨c, σa, Z, q⟩ => ⟨c, σa, Z, (Go.bind q).mono fun d q v H1 k1 r1 => by
    by_cases hd : isDk d = true
    · rw [if_pos hd] at q
      obtain ⟨kvs, rfl, hkv⟩ : ∃ kvs, d = .dict kvs ∧ isK kvs = true := by
        cases d with
        | dict kvs => exact ⟨kvs, rfl, hd⟩
        | _ => cases hd
      obtain ⟨a0, rfl, ob, r0, co⟩ := br_dict r1
      obtain ⟨l0, rfl, al0⟩ := cont_al co hkv
      refine ⟨a0, rfl, .inl ⟨l0, r0.rd⟩, c, σa, Z.kp k1, ((Go.bind q).later k1).mono fun kd q w H2 k2 r2 => ⟨c, σa, Z.kp (k1.trans k2), ((Go.bind q).later (k1.trans k2)).mono fun x q z H3 k3 r3 => ?_⟩⟩
      obtain ⟨av, ev, q⟩ := go_of q
      cases e1 : dLook (.dict kvs) kd with
      | none => rw [e1] at ev; cases ev
      | some oo =>
        rw [e1] at ev
        cases ev
        obtain ⟨a, r, ea, hD, hg, hc⟩ := look_ok e1 (r1.keep0 (k2.trans k3).k) (r2.keep0 k3.k)
        cases ea
        refine ⟨r, hg, q _ H3 ((k1.trans k2).trans k3) ?_⟩
        rcases hc with ⟨rfl, rfl⟩ | ⟨x', u, rfl, rfl, fz⟩
        · exact r3
        · exact fz
    · rw [if_neg hd] at q
      exact q.elim⟩
theorem ds_dput (hr : Room k X.A) (hv' : DF X W e g) (hk' : DR X W ie gk) (hN : X.N[i]? = some x := by rfl) (hv : Vis X.env.scope x := by first | exact Or.inl rfl | exact Or.inr (Or.inl rfl) | exact Or.inr (Or.inr rfl)) (hd : (x == ("__debug__" : PySem.Str)) = false := by decide) (hcd : (x == ("__classdict__" : PySem.Str)) = false := by decide)
    (hs : swapsWith e (some (.Subscript (.Name x p) ie pos')) pos.line X.env = pure false := by rfl) :
    DS X W (.Assign [.Subscript (.Name x p) ie pos'] e pos) (sDput i gk g) := ps_mono (ps_dput (by have := hr.un; omega) (pe_var hN hv hd hcd) hk' hv' hs) fun D σ H ⟨c, σa, Z, q⟩ => ⟨c, σa, Z, (go_b Z q).mono fun d q v H1 k1 r1 => by
  have Z1 := Z.kp k1
  obtain ⟨kd, kvs, e1, hk, hK, q, hput⟩ := onD_case q
  obtain ⟨a, ha', own⟩ := ev_own Z1 e1 hk
  obtain ⟨o, eo, co⟩ := own
  obtain ⟨l, rfl, al⟩ := cont_al co hK
  refine ⟨_, ha', c, σa, Z1, (go_b Z1 q).mono fun z q w H2 k2 r2 => ?_⟩
  have eo2 : H2 a = some (.dK l) := k2.k.oth a _ eo (fun z => z) (fun ps z => by cases z)
  split at q
  · rename_i kq hq
    split at q
    · rename_i hlen
      have Z2 := Z1.kp k2
      rw [hput] at q
      have al2 := al.keep0 k2.k
      refine ⟨a, _, rfl, .inl ⟨l, kq, eo2, br_key r2 hq, ?_, rfl⟩, q σ _ (rst_write Z2 e1 hk ha' ?_)⟩
      · have h1 := hlen.line
        have h2 := al.length
        omega
      · exact al_cont ((al_put al2 (r1.keep0 k2.k)).mono (own_kp Z2 e1 hk ha') fun _ z => .inl z)
    · exact q.elim
  · exact q.elim⟩
end
end DL
namespace DL
open PySem PySem.Spec PyProof.Rows L2 PySem.W
/-- what the def gives at an item -/
def kfM (mf : MF) (dd : List PyData) (d : PyData) : Rs PyData := match mf (d :: dd) with
  | .ok (.d false k) => .ok k
  | _ => .st
/-- sorted(it, key=f) -/
def eSortM (it : AE → Rs (List PyData)) (mf : MF) (dd : List PyData) : AE → Rs AV := fun s => (it s).bind fun ds => if lenOk ds.length then (nox (mapK (kfM mf dd) ds)).bind fun ks => if so2 ks = true then .ok (dn (.list (((ds.zip ks).mergeSort sortKD).map (·.1)))) else .st else .st
theorem kfM_ok {mf : MF} {dd : List PyData} {d k : PyData} (h : kfM mf dd d = .ok k) : mf (d :: dd) = .ok (.d false k) := by
  unfold kfM at h
  split at h
  · rename_i e
    cases h
    exact e
  · cases h
/-- the walk's context inside of the sort: nothing is raised -/
abbrev inKX (X : Cx) : Cx := { X with A := X.A.in1, xe := fun _ _ => False }
section
variable {X : Cx} {σ : L2.St} {pins : List (Addr × Obj)}
theorem inv_inK {H : Hp} {s : Shared} (I : Inv X pins σ H s) : Inv (inKX X) pins σ H s := ⟨⟨I.ok.mod, I.ok.kind, I.ok.glob, I.ok.blt, I.ok.above, I.ok.inj, I.ok.has, I.ok.cab, I.ok.hd, I.ok.frames, I.ok.stk, I.ok.exf, I.ok.bs, I.ok.bsz, I.ok.noex, I.ok.exfs, I.ok.funs, I.ok.frf⟩, I.os, I.bare, I.base, I.loc, I.cell, I.free, I.freeC, I.pin, I.hok, I.len⟩
theorem inv_outK {H : Hp} {s : Shared} (hA : X.calm = true → X.A.handled = none) (hf : X.A.frames = some X.stack) (I : Inv (inKX X) pins σ H s) : Inv X pins σ H s := ⟨⟨I.ok.mod, I.ok.kind, I.ok.glob, I.ok.blt, I.ok.above, I.ok.inj, I.ok.has, I.ok.cab, hA, hf, I.ok.stk, I.ok.exf, I.ok.bs, I.ok.bsz, I.ok.noex, I.ok.exfs, I.ok.funs, I.ok.frf⟩, I.os, I.bare, I.base, I.loc, I.cell, I.free, I.freeC, I.pin, I.hok, I.len⟩
/-- the key of an item: all is kept -/
theorem kd_key {m0 : Bool} {f : Addr} {fd : FuncData} {ps : List Str} {ms : List Bool} {dd : List PyData} {mf : MF} {dvs : List V} {ds : List Value} {k : Nat} {pl : List Addr} {s : Shared} {H : Hp} {u : Value} {x : V} {c : RC} {σa : AE} {d kd : PyData} {Q : Value → Shared → Prop} {E : Value → Shared → Prop}
    (F : FnOk X.prog X.w X.K X.mg X.base (CX X.prog X.w) k f fd ps (spF X.K (m0 :: ms) mf)) (hr : Room (k + 1) X.A) (hb : Binds X.K fd ps ds) (hv : Vals dvs ds) (hf : ∀ P H, FzA X.K P H dvs dd) (hml : ms.length = dd.length)
    (I : Inv X pins σ H s) (ok : ∀ b ∈ pl, FpOk X pins H b) (ho : ∀ b ∈ pl, ∃ o, s.heap.get? b = some o ∧ ∀ v, o.data ≠ .cell v)
    (r : RelV x u) (Z : Rst X.K c H σa σ) (hx : Fz X.K (Pr c σa σ) H x d) (hk : kfM mf dd d = .ok kd)
    (h : ∀ v y H' s1, Inv X pins σ H' s1 → Kp c.tabs H H' → RelV y v → Fz X.K (Pr c σa σ) H' y kd → (∀ b ∈ pl, FpOk X pins H' b) → (∀ b ∈ pl, ∀ o, s.heap.get? b = some o → s1.heap.get? b = some o) → Q v s1) : wpAny (model X.prog X.w) X.A.in1 (call (.ref f) [u]) Q E s := by
  have I1 := I.pinned (fp := pl) ok ho
  have pin : ∀ b ∈ pl, ∀ o, s.heap.get? b = some o → (b, o) ∈ pinsAt pl s.heap := fun b hb o e => mem_pinsAt hb e
  have hk := kfM_ok hk
  refine wpAny_mono (run_fn (X := inKX X) (Q := fun w H5 => Kp c.tabs H H5 ∧ Fz X.K (Pr c σa σ) H5 w kd) (E := fun _ _ _ => False) F (Room.in1 hr) hb hv (fun _ _ _ _ _ _ _ z => by
      obtain ⟨_, _, _, _, _, _, _, _, _, _, _, _, z⟩ := z
      exact z) (inv_inK I1) (show Vals [x] [u] from .cons r .nil) ⟨Pr c σa σ, d :: dd, ?_, fun a z => Z.pr z, fun t ht => Z.tab t (by rw [Z.tabE]; exact ht), ?_⟩) (fun v s1 hv => ?_) fun _ _ z => z.elim
  · have f1 : FzA X.K (Pr c σa σ) H [x] [d] := .cons hx .nil
    exact arg_dfl (by simp [hml]) (f1.append (hf _ _))
  · rw [hk]
    intro v H' k2 r2
    exact ⟨by rw [Z.tabE]; exact k2, r2⟩
  · obtain ⟨w, H5, I5, r5, k5, f5⟩ := hv
    have I5 := inv_outK I.ok.hd I.ok.frames I5
    have st : ∀ b ∈ pl, ∀ o, s.heap.get? b = some o → s1.heap.get? b = some o ∧ H5 b = none := fun b hb o e =>
      let z := I5.pin (b, o) (List.mem_append_right _ (List.mem_append_right _ (pin b hb o e)))
      ⟨z.1, z.2.1⟩
    refine h v w H5 s1 I5.unpinned k5 r5 f5 (fun b hb => ?_) fun b hb o e => (st b hb o e).1
    obtain ⟨o, e, _⟩ := ho b hb
    exact fpOk_H (ok b hb) (st b hb o e).2
/-- list.sort behind the taking of the items -/
theorem sm_rest {a kS f : Addr} {fd : FuncData} {ps : List Str} {m0 : Bool} {ms : List Bool} {dd : List PyData} {mf : MF} {dvs : List V} {dsv : List Value} {k : Nat} {c : RC} {σa : AE} {H1 : Hp} {ds kz : List PyData} {xs : List V} {us : List Value} {e1 : Nat} {s : Shared} {P : PySem.Fin → Shared → Prop} {E : Value → Shared → Prop}
    (F : FnOk X.prog X.w X.K X.mg X.base (CX X.prog X.w) k f fd ps (spF X.K (m0 :: ms) mf)) (hr : Room (k + 1) X.A) (hb : Binds X.K fd ps dsv) (hv : Vals dvs dsv) (hf : ∀ P H, FzA X.K P H dvs dd) (hml : ms.length = dd.length)
    (Z1 : Rst X.K c H1 σa σ) (I : Inv X pins σ H1 s) (hka : kS ≠ a) (oka : FpOk X pins H1 a) (okS : FpOk X pins H1 kS) (hA : s.heap.get? a = some (seqObj "list" #[] e1)) (hS : s.heap.get? kS = some (seqObj "list" #[] 0))
    (rv : Vals xs us) (fx : FzA X.K (Pr c σa σ) H1 xs ds) (hl : lenOk ds.length) (hk : mapK (kfM mf dd) ds = .ok kz) (ho : so2 kz = true)
    (hP : ∀ s' H' ys, Inv X pins σ (upd H' a (.lst ys)) s' → Kp c.tabs H1 H' → H' a = none → FzA X.K (Pr c σa σ) H' ys (((ds.zip kz).mergeSort sortKD).map (·.1)) → P (.done (.ret .none)) s') :
    wpAny (model X.prog X.w) X.A.in1 (ksk_rest a (.ref f) false us.toArray e1 (.ref kS)) P E s := by
  obtain ⟨hkl, hkg⟩ := mapK_get hk
  have hxl := fx.length
  have hul := rv.length
  have hZ : us.length ≤ sizeLine := by rw [← hul, hxl]; exact hl.line
  unfold ksk_rest
  refine wpAny_bind (wpAny_rule ?_)
  first
    | rw [List.forIn_toArray]
    | (rw [← Array.forIn_toList]; simp only [List.toList_toArray])
    | rw [← Array.forIn_toList]
  refine wpAny_bind (ksk_fold (fun i s' => ∃ Hi kA e ys, Inv X pins σ Hi s' ∧ Kp c.tabs H1 Hi ∧ (∀ b ∈ [a, kS], FpOk X pins Hi b) ∧ s'.heap.get? a = some (seqObj "list" #[] e1) ∧ s'.heap.get? kS = some (seqObj "list" kA e) ∧ Vals ys kA.toList ∧ FzA X.K (Pr c σa σ) Hi ys (kz.take i)) us 0 s
    ⟨H1, #[], 0, [], I, Kp.refl Z1, (fun b hb => by
      rcases List.mem_cons.mp hb with rfl | hb
      · exact oka
      · rw [List.mem_singleton.mp hb]
        exact okS), hA, hS, .nil, by rw [List.take_zero]; exact .nil⟩ ?step ?done)
  case step =>
    rintro i u s' hu ⟨Hi, kA, e, ys, Ii, ki, kyi, hAi, hSi, ry, fy⟩
    simp only [Nat.zero_add] at fy ⊢
    have hj : i < us.length := (List.getElem?_eq_some_iff.mp hu).1
    obtain ⟨x, hx⟩ : ∃ x, xs[i]? = some x := ⟨_, List.getElem?_eq_getElem (by omega)⟩
    obtain ⟨d, hd, fd⟩ := fx.getV hx
    obtain ⟨u', hu', rx⟩ := rv.get hx
    rw [hu] at hu'
    cases hu'
    obtain ⟨kd, hkd, ek⟩ := hkg i d hd
    have hyl := fy.length
    have hrl := ry.length
    rw [List.length_take] at hyl
    have hrl : ys.length = kA.size := by rw [ry.length, Array.length_toList]
    have hz : kA.size ≤ us.length := by omega
    refine wpAny_bind (wpAny_attempt (kd_key (pl := [a, kS]) F hr hb hv hf hml Ii kyi (fun b hb => by
      rcases List.mem_cons.mp hb with rfl | hb
      · exact ⟨_, hAi, wl_obj⟩
      · rw [List.mem_singleton.mp hb]
        exact ⟨_, hSi, wl_obj⟩) rx (Z1.kp ki) (fd.keep0 ki.k) ek fun v w H5 s5 I5 k5 rw5 fw ky5 hI5 => ?_))
    try dsimp only
    have hA5 := hI5 a (by simp) _ hAi
    have hS5 := hI5 kS (by simp) _ hSi
    obtain ⟨c2, hc2⟩ : ∃ c2, (s5.heap.update kS (Obj.mapSeq (·.push v))).get? kS = some (seqObj "list" (kA.push v) c2) := ⟨_, get?_update_seq hS5 (·.push v)⟩
    obtain ⟨g1, g2, g3, g4, g5, g6⟩ := ky5 kS (by simp)
    have ek2 : kz.take (i + 1) = kz.take i ++ [kd] := by rw [List.take_add_one, hkd]; simp
    have ea : (kA.push v).toList = kA.toList ++ [v] := by simp
    refine wpAny_bind (listUpdate_at hS5 rfl ?_ (Nat.le_trans hz hZ) (Nat.le_trans (Nat.le_of_eq (Array.size_push ..)) (Nat.succ_le_succ (Nat.le_trans hz hZ))))
    refine wpAny_pure ⟨rfl, H5, kA.push v, c2, ys ++ [w], I5.turned (it := kS) (t' := s5.toks) (h' := s5.heap.update kS (Obj.mapSeq (·.push v))) (fun b o hb e => (Heap.get?_update_other _ _ (Ne.symm hb)).trans e) g1 g2 g4 g5 g6, ki.trans k5, ky5, ?_, hc2, ?_, ?_⟩
    · exact (Heap.get?_update_other _ _ hka).trans hA5
    · rw [ea]
      exact ry.append (.cons rw5 .nil)
    · rw [ek2]
      exact (fy.keep0 k5.k).append (.cons fw .nil)
  case done =>
    rintro s' ⟨Hi, kA, e, ys, Ii, ki, kyi, hAi, hSi, ry, fy⟩
    have et : kz.take (0 + us.length) = kz := List.take_of_length_le (by omega)
    rw [et] at fy
    have hyl := fy.length
    have hrl : ys.length = kA.size := by rw [ry.length, Array.length_toList]
    obtain ⟨h1, h2, h3⟩ := so2_ok ho
    obtain ⟨as, hra⟩ := Dp.readsAll Ii _ _ _ fy.dp ry
    have er : EachIs (fun v k => ∃ as, Reads s'.heap v k as) kA.toList kz := reads_each hra
    try dsimp only
    refine wpAny_bind (listItems_at hSi rfl ?_)
    refine sk_end (κ := dataKind s'.heap kz) hka hSi hAi (SortsAt.data er h1 h2 fun d hd => ?_) (by omega) hZ fun G h' tk cc hG1 hG2 ha' => ?_
    · have := hr.un
      have := h3 d hd
      show X.A.units + 1 + _ < _
      omega
    · have fxi := fx.keep0 ki.k
      have hlen : (ds.zip kz).map Prod.fst = ds := List.map_fst_zip (by omega)
      have hlen2 : (ds.zip kz).map Prod.snd = kz := List.map_snd_zip (by omega)
      have e0 : EachIs (fun u b => ∃ v, RelV v u ∧ Fz X.K (Pr c σa σ) Hi v b.1) us (ds.zip kz) := each_of_map Prod.fst (by rw [hlen]; exact each_tri rv fxi)
      have ko : KeyedOut false ((ds.zip kz).map Prod.snd) us (sortVals (dataKind s'.heap kz) false kA.toList us) := by
        rw [hlen2]
        exact ⟨s'.heap, kA.toList, h1, rfl, er⟩
      have e2 := keyedOut_each (Prod.snd : PyData × PyData → PyData) ko e0
      have e3 : EachIs (fun u d => ∃ v, RelV v u ∧ Fz X.K (Pr c σa σ) Hi v d) (sortVals (dataKind s'.heap kz) false kA.toList us) (((ds.zip kz).mergeSort sortKD).map (·.1)) := each_map (f := Prod.fst) (R := fun u d => ∃ v, RelV v u ∧ Fz X.K (Pr c σa σ) Hi v d) e2
      obtain ⟨zs, rz, fz'⟩ := each_back e3
      have hzl := rz.length
      have hol : (sortVals (dataKind s'.heap kz) false kA.toList us).length = us.length := sortVals_length false (by rw [Array.length_toList]; omega)
      obtain ⟨g1, g2, g3, g4, g5, g6⟩ := kyi kS (by simp)
      have fa := kyi a (by simp)
      have I2 := Ii.turned (it := kS) (t' := s'.toks) (h' := G) (fun b o hb e => hG1 b o hb e) g1 g2 g4 g5 g6
      refine hP _ Hi zs (I2.take (t' := tk) (fun b o hb e => hG2 b o hb e) fa ⟨by omega, _, cc, rz, ha'⟩) ki fa.1 fz'
/-- sorted(it, key=f) -/
theorem de_sortM {W : WX} {P : Addr} {k : Nat} {iter : Expr} {x : Str} {m0 : Bool} {ms : List Bool} {dd : List PyData} {mf : MF} {it : AE → Rs (List PyData)} {p pos lpos kpos : Pos} (D : DefOk X.prog X.w X.K X.mg X.base k x (m0 :: ms) dd mf) (hml : ms.length = dd.length) (hgx : Gl X x) (hcm : X.calm = true) (hg : Gl X "sorted") (hm : X.mg "sorted" = none) (hr3 : Room (k + 3) X.A)
    (hP : P ∈ TabsOf X.K) (hi : DCo X W iter it) (hdb : (x == ("__debug__" : Str)) = false := by decide) (he : backTo pos (starEach [iter] X.env) = (false, eval iter X.env) :: backTo pos (starEach [] X.env) := by rfl) (hpl : (backTo pos (starEach [iter] X.env)).any (·.1) = false := by rfl) :
    DE X W (.Call (.Name "sorted" p) [iter] [⟨some (Str.ofString "key"), .Name x lpos, kpos⟩] pos) (eSortM it mf dd) := by
  obtain ⟨f, fd, ps, _, F, hmf, hkf, hbf⟩ := D.ex
  obtain ⟨dvs, dus, hv, hf, hbi⟩ := hbf 0 (Nat.zero_le _)
  refine ⟨fun pins s σ H Q I h => ?_⟩
  obtain ⟨c0, σa, Z, q⟩ := h
  refine wpAny_Call_Name_kw (ld_blt I hg hm boot_sorted ?_)
  refine PyProof.Rows.callWith_kw ?_ he hpl rfl rfl
  rw [he]
  refine Calls.spliced_cons (thn (hi.run pins s σ H (fun xs H1 => ∃ ds, Kp c0.tabs H H1 ∧ FzA X.K (Pr c0 σa σ) H1 xs ds ∧ Go X.K W c0 σ H (if lenOk ds.length then (nox (mapK (kfM mf dd) ds)).bind fun ks => if so2 ks = true then .ok (dn (.list (((ds.zip ks).mergeSort sortKD).map (·.1)))) else .st else .st : Rs AV) fun av => ∀ v H', Kp c0.tabs H H' → AvR X.K c0 σa σ H H' av v → Q v H') I ⟨c0, σa, Z, (Go.bind q).mono fun ds q xs H1 k1 y => ⟨ds, k1, y, q⟩⟩) fun v s1 ⟨l, xs, H1, ev, I1, lat, ds, k1, fx, q⟩ => Calls.spliced_nil ?_)
  subst ev
  have hfr : lenOk ds.length := by
    by_cases hc : lenOk ds.length
    · exact hc
    · rw [if_neg hc] at q; exact q.elim
  rw [if_pos hfr] at q
  obtain ⟨kz, er, q⟩ : ∃ r, mapK (kfM mf dd) ds = .ok r ∧ Go X.K W c0 σ H (if so2 r = true then .ok (dn (.list (((ds.zip r).mergeSort sortKD).map (·.1)))) else .st : Rs AV) fun av => ∀ v H', Kp c0.tabs H H' → AvR X.K c0 σa σ H H' av v → Q v H' := by
    cases el : mapK (kfM mf dd) ds with
    | st => rw [el] at q; exact q.elim
    | ex e => rw [el] at q; exact q.elim
    | ok l => rw [el] at q; exact ⟨l, rfl, q⟩
  have hso : so2 kz = true := by
    by_cases hc : so2 kz = true
    · exact hc
    · rw [if_neg hc] at q; exact q.elim
  rw [if_pos hso] at q
  have q : ∀ v H', Kp c0.tabs H H' → AvR X.K c0 σa σ H H' (dn (.list (((ds.zip kz).mergeSort sortKD).map (·.1)))) v → Q v H' := q
  have Z1 := Z.kp k1
  have hT : TabC H1 P := Z1.tab P (by rw [Z1.tabE]; exact hP)
  refine kwAll_cons (ld_glob I1 hgx hmf (kwAll_nil ?_) hdb)
  show wpAny _ _ (call (.builtin "sorted") [.ref l] [(Str.ofString "key", .ref f)]) _ _ _
  refine call_function_entry_kw kind_sorted plain_sorted entry_sorted (ksk_s1 _ _) ?_
  unfold Builtin.«sorted»
  refine wpAny_bind (m := checkCount "sorted" 1 1 _) (wpAny_pure ?_)
  refine wpAny_bind (lat P H1 s1 _ _ I1 hT ⟨hT, fun _ _ _ => rfl⟩ (by rw [fx.length]; exact hfr) (fun _ _ _ e => e) fun us s3 I3 rv kp3 => ?_)
  have hul : us.length ≤ sizeLine := by rw [← rv.length, fx.length]; exact hfr.line
  refine wpAny_bind (wpAny_newList ?_ hul)
  have hD : H1 s3.heap.objs.size = none := I3.hok.fresh (Nat.le_refl _)
  have ho3 : (s3.heap.push (seqObj "list" us.toArray 0)).get? s3.heap.objs.size = some (seqObj "list" us.toArray 0) := Heap.get?_push_size _ rfl
  refine wpAny_bind (wpAny_holding (wpAny_call_entry_kw slot_list_sort ⟨_, ho3, rfl⟩ entry_list_sort ?body (ksk_l1 _ _)))
  case body =>
    rw [ksk_t1]
    unfold ksk_tree
    have s1' := Heap.SameBut.update (s3.heap.push (seqObj "list" us.toArray 0)) s3.heap.objs.size (Obj.mapSeq fun _ => (#[] : Array Value))
    obtain ⟨e1, ho1⟩ : ∃ e1, ((s3.heap.push (seqObj "list" us.toArray 0)).update s3.heap.objs.size (Obj.mapSeq fun _ => (#[] : Array Value))).get? s3.heap.objs.size = some (seqObj "list" #[] e1) := ⟨_, get?_update_seq ho3 fun _ => #[]⟩
    have hz1 : ((s3.heap.push (seqObj "list" us.toArray 0)).update s3.heap.objs.size (Obj.mapSeq fun _ => (#[] : Array Value))).objs.size = s3.heap.objs.size + 1 := by rw [Heap.size_update, size_push']
    refine wpAny_bind (listItems_at ho3 rfl ?_)
    refine wpAny_bind (listUpdate_at ho3 rfl ?_ (by rw [List.size_toArray]; exact hul) (Nat.zero_le _))
    refine wpAny_bind (seqEpoch_at ho1 rfl ?_)
    refine wpAny_bind (wpAny_newTuple ?_ (by show us.length ≤ _; exact hul))
    refine wpAny_bind (wpAny_newList ?_ (Nat.zero_le _))
    refine wpAny_holding ?_
    have keep : ∀ b o, s3.heap.get? b = some o → (((((s3.heap.push (seqObj "list" us.toArray 0)).update s3.heap.objs.size (Obj.mapSeq fun _ => (#[] : Array Value))).push (seqObj "tuple" us.toArray 0)).push (seqObj "list" #[] 0))).get? b = some o := fun b o e =>
      Heap.get?_push_of_some _ (Heap.get?_push_of_some _ ((s1'.2 b (Nat.ne_of_lt (Heap.lt_size e))).trans (Heap.get?_push_of_some _ e)))
    have hkS : (((s3.heap.push (seqObj "list" us.toArray 0)).update s3.heap.objs.size (Obj.mapSeq fun _ => (#[] : Array Value))).push (seqObj "tuple" us.toArray 0)).objs.size = s3.heap.objs.size + 2 := by rw [size_push', hz1]
    have I4 := I3.kept (t' := s3.toks) keep
    refine sm_rest (X := in1X X) (a := s3.heap.objs.size) (c := c0) (xs := xs) (ds := ds) F (Room.in1 (hr3.mono (by omega))) hbi hv (fun P H => by simpa using hf P H) hml Z1 (inv_in1 I4) (fun z => by have z := hkS.symm.trans z; omega) (I3.fpOk (Nat.le_refl _) hD) (I3.fpOk (by rw [hkS]; omega) (I3.hok.fresh (by rw [hkS]; omega))) (Heap.get?_push_of_some _ (Heap.get?_push_of_some _ ho1)) (Heap.get?_push_size _ rfl) rv fx hfr er hso fun s' H' ys I' k' hn' fy => ?_
    · have kall := k1.trans k'
      have I6 : Inv X pins σ (upd H' s3.heap.objs.size (.lst ys)) s' := inv_out1 I.ok.hd I.ok.frames I'
      refine ⟨_, rfl, wpAny_pure ⟨_, rfl, .ref _, upd H' s3.heap.objs.size (.lst ys), I6, rfl, fin_lst (Z1.kp k') (fun v' H'' kk r => q v' H'' (kall.trans kk) (AvR.base kall.k r)) fy _ hn'⟩⟩
end
end DL
namespace DL
open PySem PySem.Spec PyProof.Rows L2
abbrev DP2 := AE → Rs (List (PyData × PyData))
def qNil : DP2 := fun _ => .ok []
def qCons (gk gv : AE → Rs PyData) (r : DP2) : DP2 := fun s => (gk s).bind fun k => (gv s).bind fun v => (r s).bind fun l => .ok ((k, v) :: l)
def putO (acc : List (PyData × PyData)) (p : PyData × PyData) : List (PyData × PyData) := match kOf p.1 with
  | some k => dput acc k p.2
  | none => acc
def mergeD (l : List (PyData × PyData)) : List (PyData × PyData) := l.foldl putO []
/-- {k: v, ..} -/
def eDisp (f : DP2) : AE → Rs AV := fun s => (f s).bind fun l => if isK l = true ∧ l.length ≤ 15 then .ok (dn (.dict (mergeD l))) else .st
def PRel (K : Fr) (P : Pd) (H : Hp) (ps : List (V × V)) (l : List (PyData × PyData)) : Prop := FzA K P H (ps.map (·.1)) (l.map (·.1)) ∧ FzA K P H (ps.map (·.2)) (l.map (·.2))
theorem PRel.keep0 {K : Fr} {P : Pd} {H H' : Hp} {ps : List (V × V)} {l : List (PyData × PyData)} (k : Keep P0 H H') (h : PRel K P H ps l) : PRel K P H' ps l := ⟨h.1.keep0 k, h.2.keep0 k⟩
theorem prel_al {K : Fr} {P : Pd} {H : Hp} : ∀ {ps : List (V × V)} {l : List (PyData × PyData)}, PRel K P H ps l → isK l = true → ∃ kvs : List (Key × V), ps = kvs.map (fun kv => (kV kv.1, kv.2)) ∧ Al K P H kvs l
  | [], [], _, _ => ⟨[], rfl, al_nil⟩
  | [], _ :: _, h, _ => by cases h.1
  | _ :: _, [], h, _ => by cases h.1
  | p :: ps, q :: l, h, hk => by
    obtain ⟨h1, h2⟩ := h
    have hk : ((kOf q.1).isSome && isK l) = true := hk
    obtain ⟨hq, hl⟩ := Bool.and_eq_true_iff.mp hk
    cases h1 with
    | cons a b =>
      cases h2 with
      | cons a2 b2 =>
        obtain ⟨kvs, rfl, al⟩ := prel_al ⟨b, b2⟩ hl
        obtain ⟨k, ek⟩ := Option.isSome_iff_exists.mp hq
        have e : p.1 = kV k := br_key (.inl a) ek
        refine ⟨(k, p.2) :: kvs, ?_, al_cons.mpr ⟨⟨?_, a2⟩, al⟩⟩
        · rw [List.map_cons, ← e]
        · cases hq1 : q.1 with
          | int i => rw [hq1] at ek; cases ek; rfl
          | str x => rw [hq1] at ek; cases ek; rfl
          | _ => rw [hq1] at ek; cases ek
theorem al_merge {K : Fr} {P : Pd} {H : Hp} : ∀ {kvs : List (Key × V)} {l : List (PyData × PyData)} {k0 : List (Key × V)} {l0 : List (PyData × PyData)}, Al K P H kvs l → Al K P H k0 l0 → Al K P H (mergeK k0 kvs) (l.foldl putO l0)
  | [], [], _, _, _, h => h
  | [], _ :: _, _, _, h, _ => by have := h.keys; simp at this
  | _ :: _, [], _, _, h, _ => by have := h.keys; simp at this
  | p :: kvs, q :: l, k0, l0, h, h0 => by
    obtain ⟨⟨h1, h2⟩, h3⟩ := al_cons.mp h
    have e : putO l0 q = dput l0 p.1 q.2 := by unfold putO; rw [h1, kOf_keyD]
    show Al K P H (mergeK (putK k0 p.1 p.2) kvs) (l.foldl putO (putO l0 q))
    rw [e]
    exact al_merge h3 (al_put h0 h2)
structure DPs (X : Cx) (W : WX) (pos : Pos) (keys : List (Option Expr)) (values : List Expr) (f : DP2) : Prop where
  run : ∀ (pins : List (Addr × Obj)) (s : Shared) (σ : L2.St) (H : Hp) (Q : List (V × V) → Hp → Prop), Inv X pins σ H s → (∃ c σa, Rst X.K c H σa σ ∧ Go X.K W c σ H (f σa) fun l => ∀ ps H', Kp c.tabs H H' → PRel X.K (Pr c σa σ) H' ps l → Q ps H') →
    wpAny (model X.prog X.w) X.A (evalPairs (pairTrees keys values X.env pos)) (fun vs s' => ∃ ps H', Inv X pins σ H' s' ∧ VV ps vs ∧ Q ps H') X.xe s
section
variable {X : Cx} {W : WX} {k v : Expr} {ks : List (Option Expr)} {vs : List Expr} {gk gv : AE → Rs PyData} {f : DP2} {pos : Pos}
theorem dps_nil : DPs X W pos [] [] qNil := ⟨fun pins s σ H Q I ⟨c, σa, Z, q⟩ => pairTrees_nil_walk ⟨[], H, I, .nil, q [] H (Kp.refl Z) ⟨.nil, .nil⟩⟩⟩
theorem dps_cons (hk : DF X W k gk) (hv : DF X W v gv) (hr : DPs X W pos ks vs f) : DPs X W pos (some k :: ks) (v :: vs) (qCons gk gv f) := by
  refine ⟨fun pins s σ H Q I ⟨c, σa, Z, q⟩ => pairTrees_cons_walk ?_⟩
  refine thn (hk.run pins s σ H (fun x H1 => ∃ d, Kp c.tabs H H1 ∧ Fz X.K (Pr c σa σ) H1 x d ∧ Go X.K W c σ H ((gv σa).bind fun v => (f σa).bind fun l => .ok ((d, v) :: l)) fun l => ∀ ps H', Kp c.tabs H H' → PRel X.K (Pr c σa σ) H' ps l → Q ps H') I ⟨c, σa, Z, (Go.bind q).mono fun d q v H1 k1 r1 => ⟨d, k1, r1, q⟩⟩) fun u s1 ⟨x, H1, I1, rx, d, k1, fx, q1⟩ => ?_
  refine thn (hv.run pins s1 σ H1 (fun y H2 => ∃ d2, Kp c.tabs H1 H2 ∧ Fz X.K (Pr c σa σ) H2 y d2 ∧ Go X.K W c σ H ((f σa).bind fun l => .ok ((d, d2) :: l)) fun l => ∀ ps H', Kp c.tabs H H' → PRel X.K (Pr c σa σ) H' ps l → Q ps H') I1 ⟨c, σa, Z.kp k1, ((Go.bind q1).later k1).mono fun d2 q v H2 k2 r2 => ⟨d2, k2, r2, q⟩⟩) fun w2 s2 ⟨y, H2, I2, ry, d2, k2, fy, q2⟩ => ?_
  refine thn (hr.run pins s2 σ H2 (fun ps H3 => Q ((x, y) :: ps) H3) I2 ⟨c, σa, Z.kp (k1.trans k2), ((Go.bind q2).later (k1.trans k2)).mono fun l q ps H3 k3 r3 => ?_⟩) fun ws s3 ⟨ps, H3, I3, rel, q3⟩ => ⟨(x, y) :: ps, H3, I3, .cons ⟨rx, ry⟩ rel, q3⟩
  exact q _ H3 ((k1.trans k2).trans k3) ⟨.cons (fx.keep0 (k2.trans k3).k) r3.1, .cons (fy.keep0 k3.k) r3.2⟩
theorem dict_empty {P : Program} {w : World} {h : Heap} {p : Addr} (e : h.get? p = some { cls := .type "dict", data := .dict #[] }) : h.DictOf (mixKind P w) p [] := ⟨_, #[], 0, e, ⟨rfl, rfl, rfl⟩, rfl, fun _ he => by simp at he, Pairs.nil, List.nodup_nil⟩
theorem de_disp (h : DPs X W pos ks vs f) (hall : ks.all (·.isSome) = true := by rfl) (hl : ks.length = vs.length := by rfl) (h0 : ks ≠ [] := by intro z; cases z) (h15 : ks.length ≤ 15 := by decide) : DE X W (.Dict ks vs pos) (eDisp f) := by
  refine ⟨fun pins s σ H Q I ⟨c, σa, Z, q⟩ => ?_⟩
  have hn := I.hok.fresh (Nat.le_refl s.heap.objs.size)
  have fp := I.fpOk (Nat.le_refl s.heap.objs.size) hn
  have he : (s.heap.push { cls := .type "dict", data := .dict #[] }).get? s.heap.objs.size = some { cls := .type "dict", data := .dict #[] } := Heap.get?_push_size _ rfl
  have I0 := I.kept (t' := s.toks) (h' := s.heap.push { cls := .type "dict", data := .dict #[] }) (fun b o e => Heap.get?_push_of_some _ e)
  have I1 := I0.pinned (fp := [s.heap.objs.size]) (fun b hb => by rw [List.mem_singleton.mp hb]; exact fp) fun b hb => by
    rw [List.mem_singleton.mp hb]
    exact ⟨_, he, fun v z => by cases z⟩
  have hp : (s.heap.objs.size, ({ cls := .type "dict", data := .dict #[] } : Obj)) ∈ pinsAt [s.heap.objs.size] ({ s with heap := s.heap.push { cls := .type "dict", data := .dict #[] } } : Shared).heap := mem_pinsAt (by simp) he
  refine wpAny_Dict_walk (knd := mixKind X.prog X.w) hall hl h0 h15 (thn (h.run _ _ σ H (fun ps H2 => ∃ l, Kp c.tabs H H2 ∧ PRel X.K (Pr c σa σ) H2 ps l ∧ Go X.K W c σ H (if isK l = true ∧ l.length ≤ 15 then .ok (dn (.dict (mergeD l))) else .st : Rs AV) fun av => ∀ v H', Kp c.tabs H H' → AvR X.K c σa σ H H' av v → Q v H') I1 ⟨c, σa, Z, (Go.bind q).mono fun l q ps H2 k2 r2 => ⟨l, k2, r2, q⟩⟩) fun ws s2 ⟨ps, H2, I2, rel, l, k2, prel, q⟩ => ?_)
  have hk : isK l = true ∧ l.length ≤ 15 := by
    by_cases z : isK l = true ∧ l.length ≤ 15
    · exact z
    · rw [if_neg z] at q; exact q.elim
  rw [if_pos hk] at q
  obtain ⟨kvs, rfl, al⟩ := prel_al prel hk.1
  obtain ⟨rs, cr, rk⟩ := carries_of (P := X.prog) (w := X.w) rel
  obtain ⟨e1, e2, _⟩ := I2.pin _ (List.mem_append_right _ (List.mem_append_right _ hp))
  refine ⟨rs, cr, dict_empty e1, fun h' dd' hs => ⟨.ref s.heap.objs.size, upd H2 s.heap.objs.size (.dK (mergeK [] kvs)), I2.unpinned.take (fun b ob hb e => (hs.2 b hb).trans e) (fpOk_H fp e2) (dk_new ?_ ?_ (rk.merge .nil) dd'), rfl, ?_⟩⟩
  · have h1 := length_mergeK kvs []
    have h2 := al.length
    have h3 := hk.2
    rw [List.length_nil] at h1
    rw [sizeLine_eq]; omega
  · exact beq_eq_false_iff_ne.mpr (Ne.symm (Nat.ne_of_lt I.big))
  · have Z2 := Z.kp k2
    have k : Kp c.tabs H2 (upd H2 s.heap.objs.size (.dK (mergeK [] kvs))) := Kp.new Z2.tab e2
    have am : Al X.K (Pr c σa σ) H2 (mergeK [] kvs) (mergeD l) := al_merge al al_nil
    exact q _ _ (k2.trans k) ⟨_, rfl, hn, _, upd_same, al_cont (am.mono k.k.any fun a z => by
      rcases z with z | rfl
      · exact .inl z
      · exact .inr e2)⟩
end
end DL
namespace DL
open PySem PySem.Spec PyProof.Rows L2
section
variable {X : Cx} {W : WX} {a b : Expr} {ga gb : AE → Rs PyData} {pos : Pos}
theorem dc_eqU (hu : X.A.units + 64 < cLine) (ha : DR X W a ga) (hb : DR X W b gb) : DC X W (.Compare a [.Eq] [b] pos) (eB eqD ga gb) := dc_cmp (op_eqD hu) b2_eq (nobehind b (by decide) (by decide)) ha hb
theorem dc_neU (hu : X.A.units + 64 < cLine) (ha : DR X W a ga) (hb : DR X W b gb) : DC X W (.Compare a [.NotEq] [b] pos) (eB neD ga gb) := dc_cmp (op_neD hu) b2_ne (nobehind b (by decide) (by decide)) ha hb
end
end DL
namespace DL
open PySem PySem.Spec PyProof.Rows L2
theorem kIs_iff {k : Key} {p : PyData × PyData} : kIs k p = true ↔ kOf p.1 = some k := by unfold kIs; exact decide_eq_true_iff
theorem kIs_one {k j : Key} {p : PyData × PyData} (h : kIs k p = true) : kIs j p = decide (k = j) := by
  rw [Bool.eq_iff_iff, kIs_iff, kIs_iff.mp h, decide_eq_true_iff]
  exact ⟨fun e => Option.some.inj e, fun e => by rw [e]⟩
theorem dlk_put (kvs : List (PyData × PyData)) (k j : Key) (d : PyData) : dlk (dput kvs k d) j = if j = k then some d else dlk kvs j := by
  unfold dput
  by_cases ha : kvs.any (kIs k) = true
  · rw [if_pos ha]
    unfold dlk
    rw [List.find?_map]
    have ec : (kIs j ∘ fun p : PyData × PyData => if kIs k p = true then (p.1, d) else p) = kIs j := funext fun p => by
      show kIs j (if kIs k p = true then (p.1, d) else p) = _
      split <;> rfl
    rw [ec]
    by_cases e : j = k
    · subst e
      rw [if_pos rfl]
      obtain ⟨p, hp, hk⟩ := List.any_eq_true.mp ha
      cases hf : kvs.find? (kIs j) with
      | none => exact absurd hk (by simpa using List.find?_eq_none.mp hf p hp)
      | some q =>
        have := List.find?_some hf
        show some (if kIs j q = true then (q.1, d) else q).2 = some d
        rw [if_pos this]
    · rw [if_neg e]
      cases hf : kvs.find? (kIs j) with
      | none => rfl
      | some q =>
        have := List.find?_some hf
        have h2 : ¬ kIs k q = true := fun z => by
          rw [kIs_one z, decide_eq_true_iff] at this
          exact e this.symm
        show some (if kIs k q = true then (q.1, d) else q).2 = some q.2
        rw [if_neg h2]
  · rw [if_neg ha]
    unfold dlk
    rw [List.find?_append]
    have e1 : kIs j (keyD k, d) = decide (k = j) := kIs_one (kIs_iff.mpr (kOf_keyD k))
    by_cases e : j = k
    · subst e
      rw [if_pos rfl]
      have : kvs.find? (kIs j) = none := List.find?_eq_none.mpr fun p hp hk => ha (List.any_eq_true.mpr ⟨p, hp, hk⟩)
      rw [this]
      show (Option.or none (List.find? (kIs j) [(keyD j, d)])).map (·.2) = _
      rw [List.find?_cons_of_pos (by rw [e1]; simp)]
      rfl
    · rw [if_neg e]
      have : List.find? (kIs j) [(keyD k, d)] = none := by
        rw [List.find?_cons_of_neg (by rw [e1]; simpa using fun z => e z.symm)]
        rfl
      rw [this, Option.or_none]
theorem isK_put {kvs : List (PyData × PyData)} (h : isK kvs = true) (k : Key) (d : PyData) : isK (dput kvs k d) = true := by
  unfold dput isK at *
  split
  · rw [List.all_map]
    refine List.all_eq_true.mpr fun p hp => ?_
    have := List.all_eq_true.mp h p hp
    show (kOf (if kIs k p = true then (p.1, d) else p).1).isSome = true
    split <;> exact this
  · rw [List.all_append, h]
    show (true && ((kOf (keyD k)).isSome && true)) = true
    rw [kOf_keyD]
    rfl
theorem len_put (kvs : List (PyData × PyData)) (k : Key) (d : PyData) : (dput kvs k d).length ≤ kvs.length + 1 := by
  unfold dput
  split
  · rw [List.length_map]; omega
  · rw [List.length_append]; exact Nat.le_refl _
theorem look_str {kvs : List (PyData × PyData)} (h : isK kvs = true) (x : Str) : dLook (.dict kvs) (.str x) = some (dlk kvs (.inr x)) := by
  show (if isK kvs = true then (kOf (.str x)).map fun q => dlk kvs q else none) = _
  rw [if_pos h]
  rfl
theorem look_int {kvs : List (PyData × PyData)} (h : isK kvs = true) (x : Int) : dLook (.dict kvs) (.int x) = some (dlk kvs (.inl x)) := by
  show (if isK kvs = true then (kOf (.int x)).map fun q => dlk kvs q else none) = _
  rw [if_pos h]
  rfl
section
variable {α : Type} {t : TgM} {body : SM} {fg : List Nat} {emb : α → PyData} {it : AE → Rs (List PyData)} {ls : List Nat} {s s0 : AE}
theorem forL_preI {I : List α → AE → Prop} : ∀ (l pre0 : List α) (s : AE), (∀ pre a post s, pre0 ++ l = pre ++ a :: post → I pre s → ∃ s1 s2, t (emb a) s = some s1 ∧ (body s1 = .nx s2 ∨ body s1 = .ct s2) ∧ I (pre ++ [a]) (fgt fg s2)) → I pre0 s → ∃ s', forL t body fg (l.map emb) s = .nx s' ∧ I (pre0 ++ l) s'
  | [], pre0, s, _, i => ⟨s, rfl, by rw [List.append_nil]; exact i⟩
  | a :: l, pre0, s, h, i => by
    obtain ⟨s1, s2, e1, e2, i2⟩ := h pre0 a l s rfl i
    have e : pre0 ++ a :: l = (pre0 ++ [a]) ++ l := by simp
    obtain ⟨s', e3, i3⟩ := forL_preI l (pre0 ++ [a]) (fgt fg s2) (fun pre b post s q => h pre b post s (by rw [e]; exact q)) i2
    refine ⟨s', ?_, by rw [e]; exact i3⟩
    rw [List.map_cons, forL_cons e1]
    rcases e2 with e2 | e2 <;> rw [e2] <;> simp only [turn_nx, turn_ct] <;> exact e3
theorem for_preI {I : List α → AE → Prop} (l : List α) (hit : it s = .ok (l.map emb)) (hs : fgt fg (lend ls s) = s0) (i : I [] s0)
    (h : ∀ pre a post s, l = pre ++ a :: post → I pre s → ∃ s1 s2, t (emb a) s = some s1 ∧ (body s1 = .nx s2 ∨ body s1 = .ct s2) ∧ I (pre ++ [a]) (fgt fg s2)) : ∃ s', I l s' ∧ sFor it ls t body fg s = .nx (unl s ls s') := by
  obtain ⟨s', e, i2⟩ := forL_preI (t := t) (body := body) (fg := fg) (emb := emb) l [] s0 (fun pre a post s q => h pre a post s q) i
  refine ⟨s', i2, ?_⟩
  rw [sFor_eq, hit]
  show SR.map _ (forL _ _ _ _ (fgt fg (lend ls s))) = _
  rw [hs, e]
  rfl
end
end DL
namespace DL
open PySem PySem.Spec PyProof.Rows L2
def keyOkD : PyData → Bool
  | .int _ => true
  | .str x => PyData.canLay0 (.str x) && decide (x.length ≤ 100000)
  | _ => false
def keysOkD (kvs : List (PyData × PyData)) : Bool := kvs.all fun p => keyOkD p.1
theorem keysOk_isK {kvs : List (PyData × PyData)} (h : keysOkD kvs = true) : isK kvs = true := List.all_eq_true.mpr fun p hp => by
  have := List.all_eq_true.mp h p hp
  obtain ⟨a, b⟩ := p
  cases a with
  | int i => rfl
  | str x => rfl
  | _ => exact nomatch this
theorem fz_key {K : Fr} {P : Pd} {H : Hp} {k : Key} (h : keyOkD (keyD k) = true) : Fz K P H (kV k) (keyD k) := by
  cases k with
  | inl i => exact .int i
  | inr x =>
    obtain ⟨h1, h2⟩ := Bool.and_eq_true_iff.mp (show (PyData.canLay0 (.str x) && decide (x.length ≤ 100000)) = true from h)
    exact .str x h1 (of_decide_eq_true h2)
theorem al_keys {K : Fr} {P P' : Pd} {H H' : Hp} : ∀ {l : List (Key × V)} {kvs : List (PyData × PyData)}, Al K P H l kvs → keysOkD kvs = true → FzA K P' H' (l.map fun p => kV p.1) (kvs.map (·.1))
  | [], [], _, _ => .nil
  | [], _ :: _, h, _ => by have := h.keys; simp at this
  | _ :: _, [], h, _ => by have := h.keys; simp at this
  | p :: l, q :: kvs, h, hk => by
    obtain ⟨⟨h1, h2⟩, h3⟩ := al_cons.mp h
    obtain ⟨k1, k2⟩ := Bool.and_eq_true_iff.mp (show (keyOkD q.1 && keysOkD kvs) = true from hk)
    refine .cons ?_ (al_keys h3 k2)
    rw [h1] at k1
    show Fz K P' H' (kV p.1) q.1
    rw [h1]
    exact fz_key k1
def dKeys : PyData → Rs (List PyData)
  | .dict kvs => if keysOkD kvs = true then .ok (kvs.map (·.1)) else .st
  | _ => .st
/-- the keys, collected -/
def iCoK (g : AE → Rs PyData) : AE → Rs (List PyData) := fun s => (g s).bind dKeys
def lenKD : List PyData → Option AV
  | [.dict kvs] => if isK kvs = true then some (dv (.int (kvs.length : Int))) else none
  | _ => none
theorem rdx_dict {K : Fr} {P : Pd} {H : Hp} {v : V} {kvs : List (PyData × PyData)} (h : Br K P H v (.dict kvs)) (hk : isK kvs = true) : ∃ a l, v = .ref a ∧ RdX H a (.dK l) ∧ Al K P H l kvs := by
  obtain ⟨a, rfl, ob, r, co⟩ := br_dict h
  obtain ⟨l, rfl, al⟩ := cont_al co hk
  exact ⟨a, l, rfl, r, al⟩
section
variable {X : Cx} {W : WX} {e : Expr} {g : AE → Rs PyData} {gs : AL} {p pos : Pos}
theorem dco_keys (hc : X.calm = true) (he : DR X W e g) : DCo X W e (iCoK g) := by
  refine ⟨fun pins s σ H R I ⟨c, σa, Z, q⟩ => ?_⟩
  refine thn (he.run pins s σ H (fun v H1 => ∃ a l, v = .ref a ∧ RdX H1 a (.dK l) ∧ R (l.map fun p => kV p.1) H1) I ⟨c, σa, Z, (Go.bind q).mono fun d q v H1 k1 r1 => ?_⟩) fun v s1 ⟨x, H1, I1, r1, a, l, e, hs, q1⟩ => ?_
  · cases d with
    | dict kvs =>
      have q : Go X.K W c σ H (if keysOkD kvs = true then .ok (kvs.map (·.1)) else .st : Rs (List PyData)) fun ds => ∀ xs H', Kp c.tabs H H' → FzA X.K (Pr c σa σ) H' xs ds → R xs H' := q
      by_cases hk : keysOkD kvs = true
      · rw [if_pos hk] at q
        obtain ⟨a, l, rfl, r, al⟩ := rdx_dict r1 (keysOk_isK hk)
        exact ⟨a, l, rfl, r, q _ H1 k1 (al_keys al hk)⟩
      · rw [if_neg hk] at q
        exact q.elim
    | _ => exact (show False from q).elim
  · subst e
    cases r1
    refine ⟨a, _, H1, rfl, I1, fun P H2 s2 Q E I2 hT hd hl hk h => ?_, q1⟩
    have hr : Rd H2 a (.dK l) := by
      rcases hs with z | ⟨_, ob, z⟩
      · exact .inl (tabd_keep hT hd z fun ps z => by cases z)
      · exact .inr ⟨ob, tabd_keep hT hd z fun ps z => by cases z⟩
    obtain ⟨z, lo, vs, rel, dd⟩ := dk_rd I2.hok hr
    obtain ⟨ep, hat⟩ := dd.dictAt
    have ek : (l.map fun kv => kV kv.1) = vs.map fun p => kV p.1 := by
      have e := congrArg (List.map kV) rel.keys
      rw [List.map_map, List.map_map] at e
      exact e
    refine PySem.W.kdu_collect (A := X.A.in1) (PySem.W.kdl_dict (knd := mixKind X.prog X.w) (kvs := vs) (ep := ep) lo) (I2.ok.hd hc) hat (by rw [← rel.length]; exact z) fun h' tk acc hk' hacc => ?_
    refine h acc.toList _ (I2.kept hk') ?_ hk'
    rw [ek]
    exact keys_at (by rw [Array.length_toList]; exact hacc.1) fun j v e => hacc.2 j v (by rw [← Array.getElem?_toList]; exact e)
theorem cr_lenK : CallR X (.builtin "len") (fun xs H Q => ∃ a l, xs = [V.ref a] ∧ Rd H a (.dK l) ∧ Q (.int l.length) H) := by
  intro pins s σ H xs us Q I r h
  obtain ⟨a, kvs, rfl, ha, q⟩ := h
  obtain ⟨u, rfl, ru⟩ := vals1 r
  cases ru
  exact d_len I ha fun t s' I' => ⟨.int kvs.length, H, I', ⟨t, rfl⟩, q⟩
theorem de_lenK (hg : Gl X "len") (hm : X.mg "len" = none) (ha : DAr X W [e] gs) (he : starEach [e] X.env = (false, eval e X.env) :: starEach [] X.env := by rfl) : DE X W (.Call (.Name "len" p) [e] [] pos) (eCall lenKD gs) :=
  pe_mono (pe_callB cr_lenK hg hm PySem.boot_len ha (by decide) (by decide) he) fun σ H Q ⟨c, σa, Z, z⟩ => ⟨c, σa, Z, (Go.bind z).mono fun ds z vs H1 k1 r1 => by
    obtain ⟨av, ev, z⟩ := go_of z
    unfold lenKD at ev
    split at ev
    · rename_i kvs
      by_cases hk : isK kvs = true
      · rw [if_pos hk] at ev
        cases ev
        obtain ⟨v, rfl, hb⟩ := brA1 r1
        obtain ⟨a, l, rfl, r, al⟩ := rdx_dict hb hk
        refine ⟨a, l, rfl, r.rd, z _ H1 k1 ?_⟩
        have := al.length
        rw [this]
        exact show Fz _ _ _ _ _ from .int _
      · rw [if_neg hk] at ev; cases ev
    · cases ev⟩
end
def eLock (i : Nat) (f : AE → Rs AV) : AE → Rs AV := fun s => match s[i]? with
  | some (.o .ow (.dict kvs)) => if isK kvs = true then match f (s.set i (.o .ln (.dict kvs))) with
    | .ok (.d b x) => .ok (.d b x)
    | _ => .st
    else .st
  | _ => .st
theorem eLock_case {i : Nat} {f : AE → Rs AV} {s : AE} {av : AV} (h : eLock i f s = .ok av) : ∃ kvs b x, s[i]? = some (.o .ow (.dict kvs)) ∧ isK kvs = true ∧ f (lend [i] s) = .ok (.d b x) ∧ av = .d b x := by
  unfold eLock at h
  split at h
  · rename_i kvs e
    by_cases hk : isK kvs = true
    · rw [if_pos hk] at h
      split at h
      · rename_i b x ef
        cases h
        refine ⟨kvs, b, x, e, hk, ?_, rfl⟩
        have : lend [i] s = s.set i (.o .ln (.dict kvs)) := by
          unfold lend lend
          rw [e]
        rw [this]
        exact ef
      · cases h
    · rw [if_neg hk] at h; cases h
  · cases h
theorem dK_ne_code {l : List (Key × V)} {a : Addr} (q : Str) : HO.dK l ≠ LamX.CodeO a q := fun z => by
  unfold LamX.CodeO at z
  cases z
theorem frz_ne_code {o : Obj} {u : HO} {a : Addr} (q : Str) : HO.frz o u ≠ LamX.CodeO a q := fun z => by
  unfold LamX.CodeO at z
  cases z
section
variable {K : Fr} {c : RC} {H : Hp} {σa : AE} {σ : L2.St} {i : Nat} {kvs : List (PyData × PyData)} {d : Addr} {l : List (Key × V)}
theorem no_tup {o : HO} (e : H d = some o) (n : ∀ xs, o ≠ .tup xs) (n2 : ∀ ob xs, o ≠ .frz ob (.tup xs)) : ∀ xs, ¬ Rd H d (.tup xs) := fun xs z => by
  rcases z with z | ⟨ob, z⟩ <;> rw [e] at z <;> cases z
  · exact n _ rfl
  · exact n2 _ _ rfl
/-- the frame under the lock: the point where the lock began -/
def lkt (c : RC) (H : Hp) (σa : AE) (σ : L2.St) (i : Nat) (d : Addr) (l : List (Key × V)) (od : Obj) : RC := { lpt c H σa σ [i] with H0 := upd H d (.frz od (.dK l)) }
theorem rst_lock (Z : Rst K c H σa σ) (e1 : σa[i]? = some (.o .ow (.dict kvs))) (ha : σ[i]? = some (some (V.ref d))) (hd : H d = some (.dK l)) (od : Obj) : Rst K (lkt c H σa σ i d l od) (upd H d (.frz od (.dK l))) (lend [i] σa) σ := by
  have Zl := rst_lend Z [i]
  have el : (lend [i] σa)[i]? = some (.o .ln (.dict kvs)) := lend_ln [i] List.mem_cons_self e1
  have hP : Pr (lpt c H σa σ [i]) (lend [i] σa) σ d := .inl ⟨i, _, _, el, ha⟩
  have nt := no_tup hd (fun xs z => by cases z) (fun ob xs z => by cases z)
  have ks : Keep (Pr (lpt c H σa σ [i]) (lend [i] σa) σ) H (upd H d (.frz od (.dK l))) := Keep.set hP nt
  have nw : ∀ a, a ≠ d → ∀ o, H a = some o → upd H d (.frz od (.dK l)) a = some o := fun a n o e => by rw [upd_ne n]; exact e
  have rx : ∀ a, a ≠ d → ∀ o, RdX H a o → RdX (upd H d (.frz od (.dK l))) a o := fun a n o r => by
    rcases r with r | ⟨x, ob, r⟩
    · exact .inl (nw a n _ r)
    · exact .inr ⟨x, ob, nw a n _ r⟩
  refine ⟨Zl.len, fun j y h => ?_, fun j y h => ?_, fun j k y h => ?_, Zl.inj, Keep.refl _ _, fun a h => .inl h, Zl.pin, Zl.lnp, fun t ht => ?_, fun a z => upd_thr (Z.keep.thr a (Z.oldT a z)), Z.tabE, fun a z => Z.noOld (mu_lend z)⟩
  · obtain ⟨v, h1, h2⟩ := Zl.val j y h
    exact ⟨v, h1, h2.mono ks fun a z => .inl z⟩
  · obtain ⟨a, h1, h2, o, r, co⟩ := Zl.bor j y h
    have ne : a ≠ d := fun z => h2 (z ▸ ⟨i, _, _, el, ha⟩)
    exact ⟨a, h1, h2, o, rx a ne o r, co.mono ks fun a z => .inl z⟩
  · obtain ⟨a, h1, h2⟩ := Zl.own j k y h
    by_cases ne : a = d
    · subst ne
      have ej := Zl.inj j i k _ y _ a h el h1 ha
      subst ej
      rw [el] at h
      cases h
      obtain ⟨o, r, co⟩ := h2
      have eo : o = .dK l := by
        rcases r with r | ⟨_, ob, r⟩
        · rw [hd] at r; cases r; rfl
        · rw [hd] at r; cases r
      subst eo
      exact ⟨a, h1, _, .inr ⟨fun xs z => (by cases z), od, upd_same⟩, co.mono ks fun a z => .inl z⟩
    · refine ⟨a, h1, ?_⟩
      cases k with
      | ow =>
        obtain ⟨o, r, co⟩ := h2
        exact ⟨o, nw a ne _ r, co.mono ks fun a z => .inl z⟩
      | io => obtain ⟨o, r, co⟩ := h2; exact ⟨o, nw a ne _ r, co.mono ks fun a z => .inl z⟩
      | ln => obtain ⟨o, r, co⟩ := h2; exact ⟨o, rx a ne _ r, co.mono ks fun a z => .inl z⟩
  · exact (Z.tab t ht).upd hd (fun ps z => by cases z) dK_ne_code
theorem kp_unlock {ts : List Addr} {H' : Hp} {od : Obj} (hd : H d = some (.dK l)) (k : Kp ts (upd H d (.frz od (.dK l))) H') : Kp ts H (upd H' d (.dK l)) ∧ H' d = some (.frz od (.dK l)) := by
  have e : H' d = some (.frz od (.dK l)) := k.k.oth d _ upd_same (fun z => z) fun ps z => by cases z
  refine ⟨⟨⟨fun a xs r => ?_, fun a o r _ nt => ?_, fun a r => ?_⟩, fun t ht => ?_⟩, e⟩
  · have ne : a ≠ d := fun z => by
      rw [z] at r
      exact no_tup hd (fun xs z => by cases z) (fun ob xs z => by cases z) xs r
    exact rd_upd (k.k.tup a xs (rd_upd r ne)) ne
  · by_cases ne : a = d
    · rw [ne, hd] at r
      cases r
      rw [ne]; exact upd_same
    · rw [upd_ne ne]
      exact k.k.oth a o (by rw [upd_ne ne]; exact r) (fun z => z) nt
  · exact upd_thr (k.k.thr a (upd_thr r))
  · exact (k.t t ht).upd e (fun ps z => by cases z) frz_ne_code
theorem av_unlock {H' : Hp} {od : Obj} {b : Bool} {x : PyData} {v : V} (e1 : σa[i]? = some (.o .ow (.dict kvs))) (ha : σ[i]? = some (some (V.ref d))) (hd : H d = some (.dK l)) (e : H' d = some (.frz od (.dK l))) (r : AvR K (lkt c H σa σ i d l od) (lend [i] σa) σ (upd H d (.frz od (.dK l))) H' (.d b x) v) :
    AvR K c σa σ H (upd H' d (.dK l)) (.d b x) v := by
  have hP : Pr (lkt c H σa σ i d l od) (lend [i] σa) σ d := .inl ⟨i, _, _, lend_ln [i] List.mem_cons_self e1, ha⟩
  have nt := no_tup e (fun xs z => by cases z) (fun ob xs z => by cases z)
  have ks : Keep (Pr (lkt c H σa σ i d l od) (lend [i] σa) σ) H' (upd H' d (.dK l)) := Keep.set hP nt
  have sub : ∀ a, Pr c σa σ a → Pr (lkt c H σa σ i d l od) (lend [i] σa) σ a := fun a z => z.imp (fun z => rt_lend.mpr z) id
  cases b with
  | false => exact (show Fz _ _ _ _ _ from r).mono ks fun a z => .inl (sub a z)
  | true =>
    obtain ⟨p, rfl, h1, o, h2, co⟩ := r
    have ne : p ≠ d := fun z => (by rw [z, upd_same] at h1; cases h1)
    rw [upd_ne ne] at h1
    exact ⟨p, rfl, h1, o, by rw [upd_ne ne]; exact h2, co.mono (ks.imp fun a z => .inl z) fun a z => .inl (z.imp (sub a) id)⟩
/-- under the lock -/
theorem lock_core {W : WX} {f : AE → Rs AV} {Q : VK} (h : tD K W (eLock i f) σ H Q) : ∃ d l, σ[i]? = some (some (V.ref d)) ∧ H d = some (.dK l) ∧ ∀ od, tD K W f σ (upd H d (.frz od (.dK l))) fun v H' => H' d = some (.frz od (.dK l)) ∧ Q v (upd H' d (.dK l)) := by
  obtain ⟨c, σa, Z, q⟩ := h
  cases ef : eLock i f σa with
  | st => rw [ef] at q; exact q.elim
  | ex x =>
    exfalso
    unfold eLock at ef
    split at ef
    · split at ef
      · split at ef <;> cases ef
      · cases ef
    · cases ef
  | ok av =>
    rw [ef] at q
    obtain ⟨kvs, b, x, e1, hk, e2, rfl⟩ := eLock_case ef
    obtain ⟨d, ha, own⟩ := Z.own i .ow _ e1
    obtain ⟨o, hd, co⟩ := (own : Own K (Pr c σa σ) H d (.dict kvs))
    obtain ⟨l, rfl, al⟩ := cont_al co hk
    refine ⟨d, l, ha, hd, fun od => ⟨lkt c H σa σ i d l od, lend [i] σa, rst_lock Z e1 ha hd od, ?_⟩⟩
    rw [e2]
    intro v H' k r
    obtain ⟨k2, e⟩ := kp_unlock hd k
    exact ⟨e, q v _ k2 (av_unlock e1 ha hd e r)⟩
end
def iKeysA (i : Nat) : AE → Rs (List PyData) := fun s => match s[i]? with
  | some (.o .ln (.dict kvs)) => if keysOkD kvs = true then .ok (kvs.map (·.1)) else .st
  | _ => .st
section
variable {K : Fr} {W : WX} {σ : L2.St} {H1 : Hp} {i : Nat} {d : Addr} {l : List (Key × V)} {od : Obj}
theorem keys_tI {R : It → Hp → Prop} (ha : σ[i]? = some (some (V.ref d))) (hd : H1 d = some (.frz od (.dK l))) (h : tI K W (iKeysA i) [] σ H1 R) : R (Itk d od l) H1 := by
  obtain ⟨c, σa, Z, q⟩ := h
  cases ef : iKeysA i σa with
  | st => rw [ef] at q; exact q.elim
  | ex x =>
    exfalso
    unfold iKeysA at ef
    split at ef
    · split at ef <;> cases ef
    · cases ef
  | ok ds =>
    rw [ef] at q
    unfold iKeysA at ef
    split at ef
    · rename_i kvs e
      by_cases hk : keysOkD kvs = true
      · rw [if_pos hk] at ef
        cases ef
        obtain ⟨a, h1, o, r, co⟩ := Z.own i .ln _ e
        rw [ha] at h1
        cases h1
        have eo : o = .dK l := by
          rcases r with r | ⟨_, ob, r⟩
          · rw [hd] at r
            cases r
            cases co
          · rw [hd] at r; cases r; rfl
        subst eo
        obtain ⟨l', e', al⟩ := cont_al co (keysOk_isK hk)
        cases e'
        refine q _ H1 (Kp.refl Z) fun j H2 k t => ?_
        have nm : ¬ Mu (lend [] σa) σ d := fun ⟨j, k', d', h1, h2, h3⟩ => by
          have := Z.inj j i k' .ln d' _ d h1 e h3 ha
          subst this
          rw [show (lend [] σa)[j]? = σa[j]? from rfl, e] at h1
          cases h1
          exact h2 rfl
        have e2 : H2 d = some (.frz od (.dK l)) := k.oth d _ hd nm fun ps z => by cases z
        have hl := al.length
        refine ⟨fun y hy => ?_, fun hj => ⟨e2, by rw [hl]; rw [List.length_map] at hj; exact hj⟩⟩
        have hj : j < l.length := by
          have := (List.getElem?_eq_some_iff.mp hy).1
          rw [List.length_map] at this
          omega
        refine ⟨⟨e2, hj⟩, fun x H3 ⟨eH, k', v', h1, h2⟩ => ?_⟩
        subst eH h2
        refine ⟨⟨Keep.refl _ _, t⟩, fun P' _ => ?_⟩
        have ak : FzA K P' H3 (l.map fun p => kV p.1) (kvs.map (·.1)) := al_keys al hk
        obtain ⟨w, hw, fw⟩ := ak.get hy
        rw [List.getElem?_map, h1] at hw
        cases hw
        exact fw
      · rw [if_neg hk] at ef; cases ef
    · cases ef
end
section
variable {X : Cx} {W : WX} {elt tg : Expr} {ifs : List Expr} {scope : Scope} {own : List (Str × Nat)} {p pos : Pos} {ts : List Nat} {t : TgM} {tt : AE → Rs Bool} {te : AE → Rs PyData} {i : Nat} {x : Str}
theorem de_lcK (hc : X.calm = true) (hN : X.N.Nodup) (hNx : X.N[i]? = some x) (hv : Vis X.env.scope x) (hd : (x == ("__debug__" : Str)) = false) (hcd : (x == ("__classdict__" : Str)) = false) (ok : blkC X.N X.env.scope scope own = true)
    (hg : ∀ (s : Shared) (H : Hp) (C : Addr) (cl : List (Str × Addr)) (fp : List Addr), DG (X.blk s H scope (compEnvC scope cl C X.env) fp) tg t ts)
    (ht : ∀ (s : Shared) (H : Hp) (C : Addr) (cl : List (Str × Addr)) (fp : List Addr), DTs (X.blk s H scope (compEnvC scope cl C X.env) fp) W0 ifs tt)
    (he : ∀ (s : Shared) (H : Hp) (C : Addr) (cl : List (Str × Addr)) (fp : List Addr), DF (X.blk s H scope (compEnvC scope cl C X.env) fp) W0 elt te)
    (hsub : ∀ i ∈ ts, i ∈ own.map (·.2) := by decide) (hs : ∀ y, foldedSetIterable (.Name x p) X.env y = pure y := by intro _; rfl) :
    DE X W (.ListComp elt [⟨tg, .Name x p, ifs, 0⟩] scope pos) (eLock i (eLc (iKeysA i) (own.map (·.2)) t tt te)) := by
  refine ⟨fun pins s σ H Q I h => ?_⟩
  refine (pe_lock (pe_lc (wi := iKeys (tVar i)) (g := gD X.K t ts) (tt := tTs X.K W0 tt) (te := tFz X.K W0 te) hc hN (pi_keys (pe_var hNx hv hd hcd)) (blkOk_by ok) (fun s H C cl fp => (hg s H C cl fp).pg) ht he hs)).run pins s σ H Q I ?_
  obtain ⟨d, l, ha, hd, h⟩ := lock_core h
  refine ⟨d, _, hd, trivial, fun od => ?_⟩
  have z := t_lc (ls := []) (hg s H 0 [] []).ok hsub (h od)
  exact ⟨_, ha, d, od, rfl, .inl ⟨l, upd_same, keys_tI ha upd_same z⟩⟩
end
end DL
namespace L2
open PySem PySem.Spec PyProof.Rows
section
variable {X : Cx} {o : Expr} {p pos apos mpos : Pos} {td : TE}
/-- the greatest of a dict's whole numbers -/
def tMaxVals (td : TE) : TE := fun σ H Q => td σ H fun x H1 => ∃ a kvs is, x = V.ref a ∧ Rd H1 a (.dK kvs) ∧ kvs.map (·.2) = is.map V.int ∧ is ≠ [] ∧ ∀ m, m ∈ is → (∀ j ∈ is, j ≤ m) → Q (.int m) H1
theorem pe_maxVals (hc : X.calm = true) (hg : Gl X "max") (hm : X.mg "max" = none) (hd : PE X o td) (hbase : attributeBase o "values" X.env (eval o X.env) = eval o X.env := by rfl) (hline : (apos.endLine == mpos.line) = true := by rfl)
    (hse : starEach [Expr.Call (.Attribute o "values" apos) [] [] mpos] X.env = [(false, eval (Expr.Call (.Attribute o "values" apos) [] [] mpos) X.env)] := by rfl) :
    PE X (.Call (.Name "max" p) [.Call (.Attribute o "values" apos) [] [] mpos] [] pos) (tMaxVals td) := by
  refine ⟨fun pins s σ H Q I h => ?_⟩
  refine wpAny_Call_Name_kw (ld_blt I hg hm (u := .builtin "max") (by first | rfl | decide +kernel) ?_ (by first | decide +kernel | decide) (by first | decide +kernel | decide))
  rw [hse]
  refine PySem.callWith_builtin1 (wpAny_Call_method0_late hbase hline (thn (hd.run pins s σ H _ I h) fun v sA ⟨x, H1, I1, r1, a, cells, ns, exq, ha, hvv, hne, q⟩ => ?_))
  subst exq
  obtain rfl : v = Value.ref a := r1
  obtain ⟨_, hsys, prs, rlq, dofz⟩ := dk_rd I1.hok ha
  obtain ⟨ep, dat0⟩ := dofz.dictAt
  have datw := dat0
  obtain ⟨oj, es, hoq, exq, hdat, hko, hpr, hnd⟩ := datw
  refine ⟨"dict", "dict.values", F.plainAttrs_dict, F.slot_dict_values, F.type_dict_values, ⟨oj, hoq, exq.1⟩, fun b e => ?_, Calls.callWith_builtin rfl (PySem.evalArgs_none ?_)⟩
  · cases e
    exact ⟨oj, hoq, exq.2.1⟩
  refine call_meetsIn F.slot_dict_values ⟨oj, hoq, exq.1⟩ F.entry_dict_values (F.args_dict_values_1 _) (meets_dict_values (mixKind X.prog X.w) a hsys) ⟨⟨prs, dofz⟩, ?_⟩
  have kOld : ∀ b u, sA.heap.get? b = some u → (sA.heap.push { cls := .type "dict_values", data := .fields #[.ref a] }).get? b = some u := fun b u e => Heap.get?_push_of_some _ e
  have datn : (sA.heap.push { cls := .type "dict_values", data := .fields #[.ref a] }).DictAt (mixKind X.prog X.w) a prs ep := dat0.keep kOld
  have hlns : prs.length = ns.length := by
    have ea := congrArg List.length hvv
    rw [List.length_map, List.length_map] at ea
    rw [← ea]
    exact (KV.length rlq).symm
  have hpos : 0 < prs.length := by
    rw [hlns]
    exact List.length_pos_iff.mpr hne
  have hnum : ∀ (i : Nat) (v : Value), (∃ k, prs[i]? = some (k, v)) → ∃ t, v = Value.int (ns.getD i 0) t := fun i v ⟨k, hkk⟩ => by
    obtain ⟨x, ga, gb⟩ := KV.at' rlq hkk
    have ea : (cells.map (·.2))[i]? = some x := by rw [List.getElem?_map, ga] <;> rfl
    rw [hvv, List.getElem?_map] at ea
    obtain ⟨j, gj, eb⟩ := Option.map_eq_some_iff.mp ea
    subst eb
    obtain ⟨t, ec⟩ := gb
    refine ⟨t, ?_⟩
    rw [ec, List.getD_eq_getElem?_getD, gj] <;> rfl
  refine call_max_walk (wpAny_pyIter_values (v := sA.heap.objs.size) (d := a) ⟨_, Heap.get?_push_size _ rfl, rfl, rfl⟩ datn ?_)
  have hlow : a < sA.heap.objs.size := Heap.lt_size hoq
  have hsiz : (sA.heap.push { cls := .type "dict_values", data := .fields #[.ref a] }).objs.size = sA.heap.objs.size + 1 := Heap.size_push _ _
  refine ⟨_, _, _, _, _, _, _, rfl, Walks.dictValues (knd := mixKind X.prog X.w) (A := X.A.in1) (I.ok.hd hc) (sA.heap.push { cls := .type "dict_values", data := .fields #[.ref a] }).objs.size a (by rw [hsiz]; exact Nat.ne_of_lt (Nat.lt_succ_of_lt hlow)) prs ep,
    ⟨⟨_, Heap.get?_push_size _ rfl, rfl, rfl⟩, datn.keep fun b u e => Heap.get?_push_of_some _ e⟩, fun b hbb => ?_, hpos, CmpOf.ints_gt (fun i => ns.getD i 0) hnum, fun v h' tk hP hkk => ?_⟩
  · show b < ((sA.heap.push _).push _).objs.size
    rw [Heap.size_push, Heap.size_push]
    rw [hsiz] at hbb
    rcases List.mem_cons.mp hbb with e | hbb
    · rw [e]
      exact Nat.lt_succ_self _
    · have e : b = a := List.mem_singleton.mp hbb
      rw [e]
      exact Nat.lt_succ_of_lt (Nat.lt_succ_of_lt hlow)
  · obtain ⟨t, rfl⟩ := hnum _ v hP
    obtain ⟨bA, bB⟩ := argBest_gt (fun i => ns.getD i 0) (prs.length - 1)
    refine ⟨.int _, H1, I1.kept (t' := tk) fun b u e => hkk b u (fun hme => ?_) (Heap.get?_push_of_some _ (kOld b u e)), ⟨t, rfl⟩, q _ ?_ fun j gj => ?_⟩
    · have ea : b = (sA.heap.push { cls := .type "dict_values", data := .fields #[.ref a] }).objs.size := List.mem_singleton.mp hme
      have eb := Heap.lt_size e
      rw [hsiz] at ea
      rw [ea] at eb
      exact absurd eb (Nat.not_lt.mpr (Nat.le_succ _))
    · have hbb : argBest (fun i j => decide (ns.getD i 0 > ns.getD j 0)) (prs.length - 1) < ns.length := by omega
      rw [List.getD_eq_getElem?_getD, List.getElem?_eq_getElem hbb]
      exact List.getElem_mem hbb
    · obtain ⟨i, hi, e⟩ := List.mem_iff_getElem.mp gj
      have eb : ns.getD i 0 = j := by rw [List.getD_eq_getElem?_getD, List.getElem?_eq_getElem hi, ← e] <;> rfl
      rw [← eb]
      exact bB i (by omega)
end
end L2
namespace DL
open PySem PySem.Spec PyProof.Rows L2
def mxV : List Int → Int
  | [] => 0
  | [x] => x
  | x :: l => if mxV l < x then x else mxV l
theorem mxV_spec : ∀ {l : List Int}, l ≠ [] → mxV l ∈ l ∧ ∀ x ∈ l, x ≤ mxV l
  | [], h => absurd rfl h
  | [x], _ => ⟨by simp [mxV], fun y hy => by rw [List.mem_singleton.mp hy]; exact Int.le_refl _⟩
  | x :: y :: l, _ => by
    obtain ⟨h1, h2⟩ := mxV_spec (l := y :: l) (by intro z; cases z)
    show (if mxV (y :: l) < x then x else mxV (y :: l)) ∈ x :: y :: l ∧ ∀ z ∈ x :: y :: l, z ≤ if mxV (y :: l) < x then x else mxV (y :: l)
    split
    · rename_i h
      refine ⟨List.mem_cons_self, fun z hz => ?_⟩
      rcases List.mem_cons.mp hz with e | e
      · rw [e]; exact Int.le_refl _
      · have := h2 z e; omega
    · rename_i h
      refine ⟨List.mem_cons_of_mem _ h1, fun z hz => ?_⟩
      rcases List.mem_cons.mp hz with e | e
      · rw [e]; omega
      · exact h2 z e
theorem mxV_eq {l : List Int} {m : Int} (h1 : m ∈ l) (h2 : ∀ x ∈ l, x ≤ m) : mxV l = m := by
  obtain ⟨a, b⟩ := mxV_spec (l := l) (fun z => by rw [z] at h1; cases h1)
  have := h2 _ a
  have := b m h1
  omega
def maxVD : PyData → Option AV
  | .dict kvs => if isK kvs = true then (intsD (kvs.map (·.2))).bind fun is => if is = [] then none else some (dv (.int (mxV is))) else none
  | _ => none
/-- max(d.values()) -/
def eMaxV (g : AE → Rs PyData) : AE → Rs AV := fun s => (g s).bind fun d => Rs.of (maxVD d)
section
variable {X : Cx} {W : WX} {o : Expr} {g : AE → Rs PyData} {p pos apos mpos : Pos}
theorem de_maxV (hc : X.calm = true) (hg : Gl X "max") (hm : X.mg "max" = none) (hd : DR X W o g) (hbase : attributeBase o "values" X.env (eval o X.env) = eval o X.env := by rfl) (hline : (apos.endLine == mpos.line) = true := by rfl)
    (hse : starEach [Expr.Call (.Attribute o "values" apos) [] [] mpos] X.env = [(false, eval (Expr.Call (.Attribute o "values" apos) [] [] mpos) X.env)] := by rfl) :
    DE X W (.Call (.Name "max" p) [.Call (.Attribute o "values" apos) [] [] mpos] [] pos) (eMaxV g) :=
  pe_mono (pe_maxVals hc hg hm hd hbase hline hse) fun σ H Q ⟨c, σa, Z, z⟩ => ⟨c, σa, Z, (Go.bind z).mono fun d z v H1 k1 r1 => by
    obtain ⟨av, ev, z⟩ := go_of z
    unfold maxVD at ev
    split at ev
    · rename_i kvs
      by_cases hk : isK kvs = true
      · rw [if_pos hk] at ev
        obtain ⟨is, e1, ev⟩ := Option.bind_eq_some_iff.mp ev
        by_cases hn : is = []
        · rw [if_pos hn] at ev; cases ev
        · rw [if_neg hn] at ev
          cases ev
          obtain ⟨a, l, rfl, r, al⟩ := rdx_dict r1 hk
          have hv := al.vals
          rw [intsD_eq e1] at hv
          refine ⟨a, l, is, rfl, r.rd, fz_ints hv, hn, fun m h1 h2 => ?_⟩
          rw [mxV_eq h1 h2] at z
          exact z _ H1 k1 (show Fz _ _ _ _ _ from .int _)
      · rw [if_neg hk] at ev; cases ev
    · cases ev⟩
end
end DL
namespace DL
open PySem PySem.Spec PyProof.Rows L2
/-- the entries that a comprehension makes: s the block's state -/
def dcL (t : TgM) (tt : AE → Rs Bool) (tk tv : AE → Rs PyData) (s : AE) : List PyData → List (PyData × PyData) → Rs (List (PyData × PyData))
  | [], acc => .ok acc
  | d :: ds, acc => match t d s with
    | none => .st
    | some s1 => (nox (tt s1)).bind fun b => if b = true then (nox (tk s1)).bind fun k => (nox (tv s1)).bind fun x => match kOf k with
      | some q => dcL t tt tk tv s ds (dput acc q x)
      | none => .st
      else dcL t tt tk tv s ds acc
/-- {tk: tv for t in it if tt} -/
def eDc (it : AE → Rs (List PyData)) (vs : List Nat) (t : TgM) (tt : AE → Rs Bool) (tk tv : AE → Rs PyData) : AE → Rs AV := fun s => (it s).bind fun ds => if vs.all (free1 s) = true ∧ lenOk ds.length then (nox (dcL t tt tk tv (wipeA s vs) ds [])).bind fun l => .ok (dn (.dict l)) else .st
section
variable {K : Fr} {W : WX} {it : AE → Rs (List PyData)} {ls vs ts : List Nat} {t : TgM} {tt : AE → Rs Bool} {tk tv : AE → Rs PyData}
theorem dcL_cons {s : AE} {d : PyData} {ds : List PyData} {acc l : List (PyData × PyData)} (h : dcL t tt tk tv s (d :: ds) acc = .ok l) : ∃ s1 b, t d s = some s1 ∧ tt s1 = .ok b ∧ ((b = true ∧ ∃ k x q, tk s1 = .ok k ∧ tv s1 = .ok x ∧ kOf k = some q ∧ dcL t tt tk tv s ds (dput acc q x) = .ok l) ∨ (b = false ∧ dcL t tt tk tv s ds acc = .ok l)) := by
  unfold dcL at h
  cases e : t d s with
  | none => rw [e] at h; cases h
  | some s1 =>
    rw [e] at h
    obtain ⟨b, h1, h2⟩ := bind_ok h
    refine ⟨s1, b, rfl, nox_ok h1, ?_⟩
    cases b with
    | true =>
      rw [if_pos rfl] at h2
      obtain ⟨k, h3, h4⟩ := bind_ok h2
      obtain ⟨x, h5, h6⟩ := bind_ok h4
      cases hq : kOf k with
      | none => rw [hq] at h6; cases h6
      | some q =>
        rw [hq] at h6
        exact .inl ⟨rfl, k, x, q, nox_ok h3, nox_ok h5, hq, h6⟩
    | false => exact .inr ⟨rfl, h2⟩
theorem kp_setK {ts : List Addr} {H1 H5 : Hp} {D : Addr} {xs ys : List (Key × V)} (k : Kp ts H1 H5) (hD : H1 D = none) (e : H5 D = some (.dK xs)) : Kp ts H1 (upd H5 D (.dK ys)) where
  k := (k.k.trans (P1 := fun a => a = D) (Keep.set rfl fun zs z => by
    rcases z with z | ⟨ob, z⟩ <;> rw [e] at z <;> cases z) fun a z => .inr (z ▸ hD)).imp fun _ z => z
  t := fun t ht => (k.t t ht).upd e (fun ps z => by cases z) dK_ne_code
theorem t_dc (hok : TgOk t ts) (hs : ∀ i ∈ ts, i ∈ vs) {σ : L2.St} {H : Hp} {Q : VK} (h : tD K W (eDc it vs t tt tk tv) σ H Q) : tDc (tI K W it ls) (gD K t ts) (tTs K W0 tt) (tRd K W0 tk) (tFz K W0 tv) vs σ H Q := by
  obtain ⟨c, σa, Z, q⟩ := h
  refine ⟨c, σa, Z, (Go.bind q).mono fun ds q J H1 k1 y D hD => ?_⟩
  have Z1 := Z.kp k1
  have hc : vs.all (free1 σa) = true ∧ lenOk ds.length := by
    by_cases hc : vs.all (free1 σa) = true ∧ lenOk ds.length
    · exact hc
    · rw [if_neg hc] at q; exact q.elim
  rw [if_pos hc] at q
  obtain ⟨hfr, hlen⟩ := hc
  have hfr : ∀ i ∈ vs, free1 σa i = true := fun i hi => List.all_eq_true.mp hfr i hi
  obtain ⟨fin, el, q⟩ : ∃ fin, dcL t tt tk tv (wipeA σa vs) ds [] = .ok fin ∧ Go K W c σ H (.ok (dn (.dict fin)) : Rs AV) fun av => ∀ v H', Kp c.tabs H H' → AvR K c σa σ H H' av v → Q v H' := by
    cases el : dcL t tt tk tv (wipeA σa vs) ds [] with
    | st => rw [el] at q; exact q.elim
    | ex e => rw [el] at q; exact q.elim
    | ok l => rw [el] at q; exact ⟨l, rfl, q⟩
  have q : ∀ v H', Kp c.tabs H H' → AvR K c σa σ H H' (dn (.dict fin)) v → Q v H' := q
  refine ⟨fun i m H2 => m = ds.length - i ∧ i ≤ ds.length ∧ ∃ l kvs, Kp c.tabs H1 H2 ∧ H2 D = some (.dK l) ∧ Al K (fun a => Pr c σa σ a ∨ a = D) H2 l kvs ∧ l.length ≤ i ∧ dcL t tt tk tv (wipeA σa vs) (ds.drop i) kvs = .ok fin, ⟨ds.length, rfl, Nat.zero_le _, [], [], Kp.new Z1.tab hD, upd_same, al_nil, Nat.le_refl _, by rw [List.drop_zero]; exact el⟩, ?_⟩
  rintro i m H2 ⟨rfl, hi, l, kvs, kk, eD, al, hl, ec⟩
  obtain ⟨yg, ys⟩ := y i H2 (kk.k.imp fun _ z => z.elim) kk.t
  by_cases hil : i < ds.length
  · right
    have e := List.getElem?_eq_getElem hil
    obtain ⟨go, st⟩ := yg _ e
    rw [List.drop_eq_getElem_cons hil] at ec
    obtain ⟨s1, b, e1, e2, e3⟩ := dcL_cons ec
    have kD : ∀ {H' : Hp}, Kp c.tabs H2 H' → H' D = some (.dK l) := fun {H'} k => k.k.oth D _ eD (fun z => z) fun ps z => by cases z
    refine ⟨go, fun H' => ds.length - (i + 1) = ds.length - (i + 1) ∧ i + 1 ≤ ds.length ∧ ∃ l kvs, Kp c.tabs H1 H' ∧ H' D = some (.dK l) ∧ Al K (fun a => Pr c σa σ a ∨ a = D) H' l kvs ∧ l.length ≤ i + 1 ∧ dcL t tt tk tv (wipeA σa vs) (ds.drop (i + 1)) kvs = .ok fin, fun H' n => ⟨ds.length - (i + 1), by omega, n⟩, fun x H3 z => ?_⟩
    obtain ⟨k3, f3⟩ := st x H3 z
    have Z3 : Rst K (cOld c H3 σa σ D) H3 σa σ := rst_old Z1 (kk.trans k3) hD (by rw [kD k3]; intro z; cases z)
    have Zw := rst_wipe Z3 hfr
    refine ⟨cOld c H3 σa σ D, wipeA σa vs, _, Zw, f3 _ (fun a z => ?_), s1, e1, fun σ' Z' sub same => ⟨wipe_same same hs, ?_⟩⟩
    · rcases z with z | z | z
      · exact .inl (.inl ((rt_wipe hfr).mp z))
      · exact .inl (.inr z)
      · exact .inr (z ▸ hD)
    have rtS : ∀ a, Rt σa σ a → Rt s1 σ' a := fun a h => by
      obtain ⟨j, k, d, h1, h2⟩ := (rt_wipe hfr).mpr h
      have hj : j ∉ ts := fun z => by
        rcases wipeA_get h1 with z' | ⟨hj, _⟩
        · cases z'
        · exact hj (hs j z)
      exact ⟨j, k, d, by rw [hok _ _ _ e1 j hj]; exact h1, by rw [same.at_ j hj]; exact h2⟩
    refine ⟨cOld c H3 σa σ D, s1, Z', ?_⟩
    rw [e2]
    intro H4 k4
    have k4 : Kp c.tabs H3 H4 := k4
    rcases e3 with ⟨rfl, kd, dx, kq, e3, e4, eq, e5⟩ | ⟨rfl, e3⟩
    · rw [if_pos rfl]
      refine ⟨cOld c H3 σa σ D, s1, Z'.kp k4, ?_⟩
      rw [e3]
      intro yk H5 k5 fk
      have k5 : Kp c.tabs H4 H5 := k5
      refine ⟨cOld c H3 σa σ D, s1, (Z'.kp k4).kp k5, ?_⟩
      rw [e4]
      intro yv H6 k6 fy
      have k6 : Kp c.tabs H5 H6 := k6
      have k26 : Kp c.tabs H2 H6 := ((k3.trans k4).trans k5).trans k6
      have eD6 := kD k26
      have hll := length_putK l kq yv
      refine ⟨l, kq, br_key fk eq, eD6, Nat.lt_of_le_of_lt hl (Nat.lt_of_lt_of_le hil hlen.line), rfl, hil, _, _, kp_setK (kk.trans k26) hD eD6, upd_same, ?_, by omega, e5⟩
      have ks : Keep (fun a => Pr c σa σ a ∨ a = D) H6 (upd H6 D (.dK (putK l kq yv))) := (Keep.set (P := fun a => a = D) rfl fun zs z => by
        rcases z with z | ⟨ob, z⟩ <;> rw [eD6] at z <;> cases z).imp fun a z => .inr z
      refine (al_put (al.keep0 k26.k) (fy.anti fun a z => ?_)).mono ks fun a z => .inl z
      rcases z with (z | z) | z
      · exact .inl (rtS a z)
      · exact .inr (.inl z)
      · exact .inr (.inr z)
    · rw [if_neg Bool.false_ne_true]
      have k24 : Kp c.tabs H2 H4 := k3.trans k4
      exact ⟨rfl, hil, l, kvs, kk.trans k24, kD k24, al.keep0 k24.k, by omega, e3⟩
  · left
    have e : i = ds.length := by omega
    subst e
    rw [List.drop_length] at ec
    cases ec
    exact ⟨ys (Nat.le_refl _), q (.ref D) H2 (k1.trans kk) ⟨D, rfl, k1.k.fresh hD, _, eD, al_cont al⟩⟩
end
section
variable {X : Cx} {W : WX} {kx vx tg iter : Expr} {ifs : List Expr} {scope : Scope} {own : List (Str × Nat)} {pos : Pos} {it : AE → Rs (List PyData)} {ls ts : List Nat} {t : TgM} {tt : AE → Rs Bool} {tk tv : AE → Rs PyData}
theorem de_dc (hc : X.calm = true) (hN : X.N.Nodup) (hi : DI X W tg iter it ls) (ok : blkC X.N X.env.scope scope own = true)
    (hg : ∀ (s : Shared) (H : Hp) (C : Addr) (cl : List (Str × Addr)) (fp : List Addr), DG (X.blk s H scope (compEnvC scope cl C X.env) fp) tg t ts)
    (ht : ∀ (s : Shared) (H : Hp) (C : Addr) (cl : List (Str × Addr)) (fp : List Addr), DTs (X.blk s H scope (compEnvC scope cl C X.env) fp) W0 ifs tt)
    (hk : ∀ (s : Shared) (H : Hp) (C : Addr) (cl : List (Str × Addr)) (fp : List Addr), DR (X.blk s H scope (compEnvC scope cl C X.env) fp) W0 kx tk)
    (he : ∀ (s : Shared) (H : Hp) (C : Addr) (cl : List (Str × Addr)) (fp : List Addr), DF (X.blk s H scope (compEnvC scope cl C X.env) fp) W0 vx tv)
    (hsub : ∀ i ∈ ts, i ∈ own.map (·.2) := by decide) (hs : ∀ x, foldedSetIterable iter X.env x = pure x := by intro _; rfl) :
    DE X W (.DictComp kx vx [⟨tg, iter, ifs, 0⟩] scope pos) (eDc it (own.map (·.2)) t tt tk tv) := ⟨fun pins s σ H Q I h =>
  (pe_dc hc hN hi (blkOk_by ok) (fun s H C cl fp => (hg s H C cl fp).pg) ht hk he hs).run pins s σ H Q I (t_dc (hg s H 0 [] []).ok hsub h)⟩
end
end DL
namespace DL
open PySem PySem.Spec PyProof.Rows L2 PySem.W
section
variable {prog : Program} {w : World} {A : Around} {E : Value → Shared → Prop} {s : Shared}
/-- the next pair, the one before still out -/
theorem zk_next {zz ti tr tp j1 j2 a1 a2 : Addr} {fl : Bool} {ob : Obj} {m1 m2 : Nat} {us vs : Array Value} {u v : Value} {Q : Value → Shared → Prop} (D : ZipApart zz ti tr j1 j2 a1 a2)
    (hz : IsZipHeld s.heap zz ti tr tp fl) (ht : s.heap.get? tp = some ob) (hp : IsPair s.heap ti (.ref j1) (.ref j2))
    (i1 : s.heap.IsTupleIter j1 a1 m1) (i2 : s.heap.IsTupleIter j2 a2 m2) (t1 : s.heap.IsTuple a1 us) (t2 : s.heap.IsTuple a2 vs) (hu : us[m1]? = some u) (hv : vs[m2]? = some v)
    (q : ∀ g, IsZipHeld g zz ti tr tp true → g.IsTupleIter j1 a1 (m1 + 1) → g.IsTupleIter j2 a2 (m2 + 1) → IsPair g s.heap.objs.size u v → g.objs.size = s.heap.objs.size + 1 →
      (∀ c o, c ≠ zz → c ≠ j1 → c ≠ j2 → s.heap.get? c = some o → g.get? c = some o) → Q (.ref s.heap.objs.size) { s with heap := g }) :
    wpAny (model prog w) A (Builtin.«zip.__next__» ⟨[.ref zz], []⟩) (fun r t => ∃ v, r = .done (.ret v) ∧ Q v t) E s := by
  show wpAny _ _ (field (.ref zz) 2 >>= _) _ _ _
  refine wpAny_bind (wpAny_field hz rfl (x := .bool false) rfl ?_)
  show wpAny _ _ (field (.ref zz) 3 >>= _) _ _ _
  refine wpAny_bind (wpAny_field hz rfl (x := .ref ti) rfl ?_)
  refine wpAny_bind (wpAny_seqItems hp rfl ?_)
  show wpAny _ _ (Builtin.SmallTypes.ownedTupleIsFree (.ref zz) >>= _) _ _ _
  refine wpAny_bind (wpAny_tupleHeld_zip hz ht fun g1 z1 b1 => ?_)
  simp only [Bool.false_eq_true, if_false]
  refine wpAny_bind ?_
  rw [← Array.forIn_toList]
  simp only [List.forIn_cons, List.forIn_nil]
  refine wpAny_bind (wpAny_bind (wpAny_holding ?_))
  show wpAny _ _ (Builtin.SmallTypes.nextOf (.ref j1) >>= _) _ _ _
  refine wpAny_bind (RZ.nextOf_tuple_item (s := { s with heap := g1 }) (i1.extBut b1.extBut D.i1z) (t1.extBut b1.extBut D.l1z) hu fun g2 y1 b2 => wpAny_pure ?_)
  refine wpAny_pure ?_
  refine wpAny_bind (wpAny_bind (wpAny_holding ?_))
  show wpAny _ _ (Builtin.SmallTypes.nextOf (.ref j2) >>= _) _ _ _
  refine wpAny_bind (RZ.nextOf_tuple_item (s := { s with heap := g2 }) ((i2.extBut b1.extBut D.i2z).extBut b2.extBut D.i12.symm) ((t2.extBut b1.extBut D.l2z).extBut b2.extBut D.l2i1) hv fun g3 y2 b3 => wpAny_pure ?_)
  refine wpAny_pure (wpAny_pure ?_)
  show wpAny _ _ (newTuple [u, v] >>= _) _ _ _
  refine wpAny_bind (wpAny_newTuple ?_)
  have sz : g3.objs.size = s.heap.objs.size := by rw [b3.1, b2.1, b1.1]
  have z3 : IsZipHeld g3 zz ti tr tp true := b3.extBut _ _ D.i2z.symm (b2.extBut _ _ D.i1z.symm z1)
  have kp : ∀ c o, c ≠ zz → c ≠ j1 → c ≠ j2 → s.heap.get? c = some o → g3.get? c = some o := fun c o n1 n2 n3 e => b3.extBut _ _ n3 (b2.extBut _ _ n2 (b1.extBut _ _ n1 e))
  have y1' : g3.IsTupleIter j1 a1 (m1 + 1) := y1.extBut b3.extBut D.i12
  refine wpAny_pure ⟨_, rfl, ?_⟩
  show Q (.ref g3.objs.size) _
  have pr : IsPair (g3.push { cls := .type "tuple", data := .seq #[u, v] }) g3.objs.size u v := Heap.get?_push_size _ rfl
  have s4 : (g3.push { cls := .type "tuple", data := .seq #[u, v] }).objs.size = g3.objs.size + 1 := Heap.size_push ..
  rw [sz] at pr s4 ⊢
  exact q _ (Heap.get?_push_of_some _ z3) (y1'.at fun o e => Heap.get?_push_of_some _ e) (y2.at fun o e => Heap.get?_push_of_some _ e) pr s4 fun c o n1 n2 n3 e => Heap.get?_push_of_some _ (kp c o n1 n2 n3 e)
theorem zk_end {zz ti tr tp j1 j2 a1 a2 : Addr} {fl : Bool} {ob : Obj} {m1 m2 : Nat} {us vs : Array Value} {Q : Fin → Shared → Prop} (hh : A.handled = none) (D : ZipApart zz ti tr j1 j2 a1 a2)
    (hz : IsZipHeld s.heap zz ti tr tp fl) (ht : s.heap.get? tp = some ob) (hp : IsPair s.heap ti (.ref j1) (.ref j2))
    (i1 : s.heap.IsTupleIter j1 a1 m1) (i2 : s.heap.IsTupleIter j2 a2 m2) (t1 : s.heap.IsTuple a1 us) (t2 : s.heap.IsTuple a2 vs) (he : us[m1]? = none ∨ vs[m2]? = none)
    (q : ∀ g e, (∀ c o, c ≠ zz → c ≠ j1 → c ≠ j2 → s.heap.get? c = some o → g.get? c = some o) → (∃ o, g.get? e = some o ∧ o.cls = .type "StopIteration") → E (.ref e) { s with heap := g }) :
    wpAny (model prog w) A (Builtin.«zip.__next__» ⟨[.ref zz], []⟩) Q E s := by
  show wpAny _ _ (field (.ref zz) 2 >>= _) _ _ _
  refine wpAny_bind (wpAny_field hz rfl (x := .bool false) rfl ?_)
  show wpAny _ _ (field (.ref zz) 3 >>= _) _ _ _
  refine wpAny_bind (wpAny_field hz rfl (x := .ref ti) rfl ?_)
  refine wpAny_bind (wpAny_seqItems hp rfl ?_)
  show wpAny _ _ (Builtin.SmallTypes.ownedTupleIsFree (.ref zz) >>= _) _ _ _
  refine wpAny_bind (wpAny_tupleHeld_zip hz ht fun g1 z1 b1 => ?_)
  simp only [Bool.false_eq_true, if_false]
  refine wpAny_bind ?_
  rw [← Array.forIn_toList]
  simp only [List.forIn_cons, List.forIn_nil]
  refine wpAny_bind (wpAny_bind (wpAny_holding ?_))
  show wpAny _ _ (Builtin.SmallTypes.nextOf (.ref j1) >>= _) _ _ _
  cases hu : us[m1]? with
  | none =>
    refine wpAny_bind (RZ.nextOf_tuple_end (s := { s with heap := g1 }) hh (i1.extBut b1.extBut D.i1z) (t1.extBut b1.extBut D.l1z) hu fun g2 e b2 x => ?_)
    exact q g2 e (fun c o n1 n2 _ y => b2 _ _ n2 (b1.extBut _ _ n1 y)) x
  | some u =>
    have hv : vs[m2]? = none := by rcases he with h | h; rw [hu] at h; cases h; exact h
    refine wpAny_bind (RZ.nextOf_tuple_item (s := { s with heap := g1 }) (i1.extBut b1.extBut D.i1z) (t1.extBut b1.extBut D.l1z) hu fun g2 y1 b2 => wpAny_pure ?_)
    refine wpAny_pure ?_
    refine wpAny_bind (wpAny_bind (wpAny_holding ?_))
    show wpAny _ _ (Builtin.SmallTypes.nextOf (.ref j2) >>= _) _ _ _
    refine wpAny_bind (RZ.nextOf_tuple_end (s := { s with heap := g2 }) hh ((i2.extBut b1.extBut D.i2z).extBut b2.extBut D.i12.symm) ((t2.extBut b1.extBut D.l2z).extBut b2.extBut D.l2i1) hv fun g3 e b3 x => ?_)
    exact q g3 e (fun c o n1 n2 n3 y => b3 _ _ n3 (b2.extBut _ _ n2 (b1.extBut _ _ n1 y))) x
/-- a zip of two tuples, behind m pairs; S: where the pairs go -/
def ZkSt (h : Heap) (zz ti tr j1 j2 a1 a2 S : Addr) (us vs : Array Value) (m : Nat) : Prop := IsPair h ti (.ref j1) (.ref j2) ∧ h.IsTupleIter j1 a1 m ∧ h.IsTupleIter j2 a2 m ∧ h.IsTuple a1 us ∧ h.IsTuple a2 vs ∧
  ((IsZip h zz ti tr .none ∧ ∃ a b, IsPair h tr a b) ∨ ∃ T f ob, IsZipHeld h zz ti tr T f ∧ h.get? T = some ob ∧ T ≠ zz ∧ T ≠ j1 ∧ T ≠ j2 ∧ T ≠ S)
theorem zk_item {zz ti tr j1 j2 a1 a2 S : Addr} {us vs : Array Value} {m : Nat} {u v : Value} {Q : Option Value → Shared → Prop} (D : ZipApart zz ti tr j1 j2 a1 a2) (st : ZkSt s.heap zz ti tr j1 j2 a1 a2 S us vs m) (hS : S < s.heap.objs.size)
    (hu : us[m]? = some u) (hv : vs[m]? = some v)
    (q : ∀ g, ZkSt g zz ti tr j1 j2 a1 a2 S us vs (m + 1) → IsPair g s.heap.objs.size u v → g.objs.size = s.heap.objs.size + 1 → (∀ c o, c ≠ zz → c ≠ tr → c ≠ j1 → c ≠ j2 → s.heap.get? c = some o → g.get? c = some o) → Q (some (.ref s.heap.objs.size)) { s with heap := g }) :
    wpAny (model prog w) A (pyNext (.ref zz)) Q E s := by
  obtain ⟨hp, i1, i2, t1, t2, hz⟩ := st
  have lt : ∀ {c o}, s.heap.get? c = some o → s.heap.objs.size ≠ c := fun e => Nat.ne_of_gt (Heap.lt_size e)
  have n1 : s.heap.objs.size ≠ j1 := let ⟨_, e, _⟩ := i1; lt e
  have n2 : s.heap.objs.size ≠ j2 := let ⟨_, e, _⟩ := i2; lt e
  rcases hz with ⟨hz, a, b, hr⟩ | ⟨T, f, ob, hz, ht, r1, r2, r3, r4⟩
  · refine RZ.pyNext_zipT_item D hz hp hr i1 i2 t1 t2 hu hv fun g b1 b2 b3 b4 b5 b6 k => ?_
    exact q g ⟨k _ _ D.TIz D.TITO D.TIi1 D.TIi2 hp, b3, b4, t1.at fun o e => k _ o D.l1z D.l1TO D.l1i1 D.l1i2 e, t2.at fun o e => k _ o D.l2z D.l2TO D.l2i1 D.l2i2 e, .inr ⟨s.heap.objs.size, false, _, b1, b5, lt hz, n1, n2, Nat.ne_of_gt hS⟩⟩ b5 b6 k
  · have hT : s.TypeIs (.ref zz) "zip" := ⟨_, hz, rfl⟩
    unfold pyNext
    refine wpAny_bind (wpAny_attempt (wpAny_callSpecial?_slot (name := Str.ofString "__next__") hT PySem.F.slot_zip_next (wpAny_call_entry PySem.F.slot_zip_next hT PySem.F.entry_zip_next
      (zk_next D hz ht hp i1 i2 t1 t2 hu hv fun g b1 b3 b4 b5 b6 k => wpAny_pure ?_) (PySem.F.args_zip_next_1 _))))
    exact q g ⟨k _ _ D.TIz D.TIi1 D.TIi2 hp, b3, b4, t1.at fun o e => k _ o D.l1z D.l1i1 D.l1i2 e, t2.at fun o e => k _ o D.l2z D.l2i1 D.l2i2 e, .inr ⟨T, true, ob, b1, k _ _ r1 r2 r3 ht, r1, r2, r3, r4⟩⟩ b5 b6 fun c o c1 _ c3 c4 e => k c o c1 c3 c4 e
theorem zk_done {zz ti tr j1 j2 a1 a2 S : Addr} {us vs : Array Value} {m : Nat} {Q : Option Value → Shared → Prop} (hh : A.handled = none) (D : ZipApart zz ti tr j1 j2 a1 a2) (st : ZkSt s.heap zz ti tr j1 j2 a1 a2 S us vs m)
    (he : us[m]? = none ∨ vs[m]? = none) (q : ∀ g, (∀ c o, c ≠ zz → c ≠ tr → c ≠ j1 → c ≠ j2 → s.heap.get? c = some o → g.get? c = some o) → Q none { s with heap := g }) :
    wpAny (model prog w) A (pyNext (.ref zz)) Q E s := by
  obtain ⟨hp, i1, i2, t1, t2, hz⟩ := st
  rcases hz with ⟨hz, a, b, hr⟩ | ⟨T, f, ob, hz, ht, r1, r2, r3, r4⟩
  · exact RZ.pyNext_zipT_end hh D hz hp hr i1 i2 t1 t2 he q
  · have hT : s.TypeIs (.ref zz) "zip" := ⟨_, hz, rfl⟩
    unfold pyNext
    refine wpAny_bind (wpAny_attempt (wpAny_callSpecial?_slot (name := Str.ofString "__next__") hT PySem.F.slot_zip_next (wpAny_call_entry PySem.F.slot_zip_next hT PySem.F.entry_zip_next
      (zk_end hh D hz ht hp i1 i2 t1 t2 he fun g e k x => ?_) (PySem.F.args_zip_next_1 _))))
    obtain ⟨o, ho, hc⟩ := x
    refine wpAny_bind (wpAny_isInstance (T := "StopIteration") (b := true) ⟨o, ho, hc⟩ isSubtype_stop ?_)
    exact wpAny_pure (q _ fun c o c1 _ c3 c4 e => k c o c1 c3 c4 e)
end
end DL
namespace DL
open PySem PySem.Spec PyProof.Rows L2 PySem.W
theorem zip_len0 : typeLookup (.type "zip") "__len__" = pure none := am_miss_of_fast (by decide +kernel)
theorem zip_hint0 : typeLookup (.type "zip") "__length_hint__" = pure none := am_miss_of_fast (by decide +kernel)
abbrev LsO (acc : Array Value) (c : Nat) : Obj := { cls := .type "list", dict := none, data := .seq acc c, slots := #[] }
/-- the pairs that were made -/
structure ZkG (us vs : Array Value) (lo : Addr) (h : Heap) (as : List Addr) : Prop where
  rise : as.Pairwise (· < ·)
  above : ∀ a ∈ as, lo < a
  pairs : ∀ (j : Nat) (a : Addr), as[j]? = some a → ∃ u v, us[j]? = some u ∧ vs[j]? = some v ∧ IsPair h a u v
theorem ZkG.there {us vs : Array Value} {lo : Addr} {h : Heap} {as : List Addr} (g : ZkG us vs lo h as) {a : Addr} (ha : a ∈ as) : a < h.objs.size := by
  obtain ⟨j, hj⟩ := List.mem_iff_getElem?.mp ha
  obtain ⟨_, _, _, _, e⟩ := g.pairs j a hj
  exact Heap.lt_size e
/-- all of the zip lies below S -/
structure ZkLow (zz ti tr j1 j2 a1 a2 S : Addr) : Prop where
  z : zz < S
  i : ti < S
  r : tr < S
  j : j1 < S
  k : j2 < S
  a : a1 < S
  b : a2 < S
theorem ZkSt.keep {h g : Heap} {zz ti tr j1 j2 a1 a2 S : Addr} {us vs : Array Value} {m : Nat} (L : ZkLow zz ti tr j1 j2 a1 a2 S) (x : ZkSt h zz ti tr j1 j2 a1 a2 S us vs m) (k : ∀ b o, b ≠ S → h.get? b = some o → g.get? b = some o) : ZkSt g zz ti tr j1 j2 a1 a2 S us vs m := by
  obtain ⟨hp, i1, i2, t1, t2, hz⟩ := x
  have n : ∀ {c : Addr}, c < S → c ≠ S := fun e => Nat.ne_of_lt e
  refine ⟨k _ _ (n L.i) hp, i1.at fun o e => k _ o (n L.j) e, i2.at fun o e => k _ o (n L.k) e, t1.at fun o e => k _ o (n L.a) e, t2.at fun o e => k _ o (n L.b) e, ?_⟩
  rcases hz with ⟨hz, a, b, hr⟩ | ⟨T, f, ob, hz, ht, r1, r2, r3, r4⟩
  · exact .inl ⟨k _ _ (n L.z) hz, a, b, k _ _ (n L.r) hr⟩
  · exact .inr ⟨T, f, ob, k _ _ (n L.z) hz, k _ _ r4 ht, r1, r2, r3, r4⟩
section
variable {prog : Program} {w : World} {A : Around} {s : Shared} {R : Result → Shared → Prop} {zz ti tr j1 j2 a1 a2 S : Addr} {us vs : Array Value}
theorem zk_loop (hh : A.handled = none) (D : ZipApart zz ti tr j1 j2 a1 a2) (L : ZkLow zz ti tr j1 j2 a1 a2 S) {n : Nat} (hn1 : n = min us.size vs.size) (hn : n ≤ sizeLine) (res : Value) {h0 : Heap}
    (hR : ∀ g tk acc c as, (∀ b o, b ≠ S → b ≠ zz → b ≠ tr → b ≠ j1 → b ≠ j2 → h0.get? b = some o → g.get? b = some o) → g.get? S = some (LsO acc c) → as.length = n → ZkG us vs S g as → acc.toList = as.map Value.ref → R (.ok (.ret res)) { s with heap := g, toks := tk }) :
    ∀ (k i : Nat) (h : Heap) (tk c : Nat) (acc : Array Value) (as : List Addr), n - i = k → i ≤ n → ZkSt h zz ti tr j1 j2 a1 a2 S us vs i → (∀ b o, b ≠ S → b ≠ zz → b ≠ tr → b ≠ j1 → b ≠ j2 → h0.get? b = some o → h.get? b = some o) →
      h.get? S = some (LsO acc c) → acc.toList = as.map Value.ref → as.length = i → ZkG us vs S h as → codeAny (model prog w) A (.builtin "list.extend.loop" ⟨[.ref S, .ref zz, res], []⟩) R { s with heap := h, toks := tk } := by
  intro k
  induction k with
  | zero =>
    intro i h tk c acc as hk hi st kp hS hacc hal hG
    have hin : i = n := by omega
    refine codeAny_builtin PySem.F.entry_extend_loop ?_
    rw [Around.under_plainId PySem.F.plain_extend_loop _]
    show wpAny _ A.in1 (pyNext (.ref zz) >>= _) _ _ _
    have hend : us[i]? = none ∨ vs[i]? = none := by
      rcases Nat.le_total us.size vs.size with z | z
      · exact .inl (Array.getElem?_eq_none (by rw [hin, hn1, Nat.min_eq_left z]; exact Nat.le_refl _))
      · exact .inr (Array.getElem?_eq_none (by rw [hin, hn1, Nat.min_eq_right z]; exact Nat.le_refl _))
    refine wpAny_bind (zk_done (s := { s with heap := h, toks := tk }) (A := A.in1) hh D st hend fun g kg => ?_)
    have up : ∀ {x o}, S ≤ x → h.get? x = some o → g.get? x = some o := fun {x o} hx e => kg x o (Nat.ne_of_gt (Nat.lt_of_lt_of_le L.z hx)) (Nat.ne_of_gt (Nat.lt_of_lt_of_le L.r hx)) (Nat.ne_of_gt (Nat.lt_of_lt_of_le L.j hx)) (Nat.ne_of_gt (Nat.lt_of_lt_of_le L.k hx)) e
    refine wpAny_pure (hR g tk acc c as (fun b o n0 n1 n2 n3 n4 e => kg b o n1 n2 n3 n4 (kp b o n0 n1 n2 n3 n4 e)) (up (Nat.le_refl _) hS) (by omega) ⟨hG.rise, hG.above, fun j a hj => ?_⟩ hacc)
    obtain ⟨u, v, e1, e2, e3⟩ := hG.pairs j a hj
    exact ⟨u, v, e1, e2, up (Nat.le_of_lt (hG.above a (List.mem_of_getElem? hj))) e3⟩
  | succ k ih =>
    intro i h tk c acc as hk hi st kp hS hacc hal hG
    have hu : i < us.size := by have := Nat.min_le_left us.size vs.size; omega
    have hv : i < vs.size := by have := Nat.min_le_right us.size vs.size; omega
    have hsz : acc.size = i := by rw [← Array.length_toList, hacc, List.length_map, hal]
    have hSl : S < h.objs.size := Heap.lt_size hS
    refine codeAny_builtin PySem.F.entry_extend_loop ?_
    rw [Around.under_plainId PySem.F.plain_extend_loop _]
    show wpAny _ A.in1 (pyNext (.ref zz) >>= _) _ _ _
    refine wpAny_bind (zk_item (s := { s with heap := h, toks := tk }) D st hSl (Array.getElem?_eq_getElem hu) (Array.getElem?_eq_getElem hv) fun g st1 ht hz kg => ?_)
    dsimp only at ht hz kg ⊢
    have up : ∀ {x o}, S ≤ x → h.get? x = some o → g.get? x = some o := fun {x o} hx e => kg x o (Nat.ne_of_gt (Nat.lt_of_lt_of_le L.z hx)) (Nat.ne_of_gt (Nat.lt_of_lt_of_le L.r hx)) (Nat.ne_of_gt (Nat.lt_of_lt_of_le L.j hx)) (Nat.ne_of_gt (Nat.lt_of_lt_of_le L.k hx)) e
    have hS1 := up (Nat.le_refl _) hS
    have wr : ∀ b o, b ≠ S → g.get? b = some o → (g.update S (Obj.mapSeq (·.push (Value.ref h.objs.size)))).get? b = some o := fun b o hb e => (Heap.get?_update_other _ _ (Ne.symm hb)).trans e
    show wpAny _ A.in1 (updateSeq S (·.push (Value.ref h.objs.size)) >>= _) _ _ _
    refine wpAny_bind ?_
    refine wpAny_updateSeq hS1 rfl (wpAny_pure ⟨plainId_quiet PySem.F.plain_extend_loop _, ih (i + 1) _ tk _ (acc.push (Value.ref h.objs.size)) (as ++ [h.objs.size]) (by omega) (by omega) (st1.keep L wr)
      (fun b o n0 n1 n2 n3 n4 e => wr b o n0 (kg b o n1 n2 n3 n4 (kp b o n0 n1 n2 n3 n4 e))) (Heap.get?_update_self _ hS1 rfl) (by rw [Array.toList_push, hacc, List.map_append]; rfl) (by rw [List.length_append, hal]; rfl) ⟨?_, ?_, ?_⟩⟩) (by rw [hsz]; omega) (by show (acc.push (Value.ref h.objs.size)).size ≤ sizeLine + 1; rw [Array.size_push, hsz]; omega)
    · refine List.pairwise_append.mpr ⟨hG.rise, List.pairwise_singleton _ _, fun x hx y hy => ?_⟩
      rw [List.mem_singleton.mp hy]
      exact hG.there hx
    · intro x hx
      rcases List.mem_append.mp hx with hx | hx
      · exact hG.above x hx
      · rw [List.mem_singleton.mp hx]; exact hSl
    · intro j b hj
      rcases Nat.lt_trichotomy j as.length with z | z | z
      · rw [List.getElem?_append_left z] at hj
        obtain ⟨u, v, e1, e2, e3⟩ := hG.pairs j b hj
        have hb := hG.above b (List.mem_of_getElem? hj)
        exact ⟨u, v, e1, e2, wr b _ (Nat.ne_of_gt hb) (up (Nat.le_of_lt hb) e3)⟩
      · subst z
        have hb : h.objs.size = b := by simpa using hj
        subst hb
        exact ⟨us[i], vs[i], by rw [hal]; exact Array.getElem?_eq_getElem hu, by rw [hal]; exact Array.getElem?_eq_getElem hv, wr _ _ (Nat.ne_of_gt hSl) ht⟩
      · have hno : (as ++ [h.objs.size])[j]? = none := List.getElem?_eq_none (by rw [List.length_append, List.length_singleton]; omega)
        rw [hno] at hj; cases hj
theorem zk_extend (hh : A.handled = none) (D : ZipApart zz ti tr j1 j2 a1 a2) (L : ZkLow zz ti tr j1 j2 a1 a2 S) (hz : IsZip s.heap zz ti tr .none) (hp : IsPair s.heap ti (.ref j1) (.ref j2)) {a b : Value} (hr : IsPair s.heap tr a b) (i1 : s.heap.IsTupleIter j1 a1 0) (i2 : s.heap.IsTupleIter j2 a2 0)
    (t1 : s.heap.IsTuple a1 us) (t2 : s.heap.IsTuple a2 vs) (res : Value) (c0 : Nat) (hS : s.heap.get? S = some { cls := .type "list", data := .seq #[] c0 }) (hn : min us.size vs.size ≤ sizeLine)
    (hR : ∀ g tk acc c as, (∀ b o, b ≠ S → b ≠ zz → b ≠ tr → b ≠ j1 → b ≠ j2 → s.heap.get? b = some o → g.get? b = some o) → g.get? S = some (LsO acc c) → as.length = min us.size vs.size → ZkG us vs S g as → acc.toList = as.map Value.ref → R (.ok (.ret res)) { s with heap := g, toks := tk }) :
    wpAny (model prog w) A.in1 (Builtin.List.listExtendWith (.ref S) (.ref zz) res)
      (fun fin t => match fin with | .done f => R (.ok f) t | .again c' => c'.quiet = true ∧ codeAny (model prog w) A c' R t) (fun e t => R (.error e) t) s := by
  have hT : s.TypeIs (.ref zz) "zip" := ⟨_, hz, rfl⟩
  have hne : S ≠ zz := Nat.ne_of_gt L.z
  unfold Builtin.List.listExtendWith
  refine wpAny_bind (wpAny_typeOf hT ?_)
  have e1 : Builtin.List.listSameRef (.ref S) (.ref zz) = false := by simp [Builtin.List.listSameRef, hne]
  have e2 : (Value.type "zip" == Value.type "list") = false := by decide
  have e3 : (Value.type "zip" == Value.type "tuple") = false := by decide
  simp only [e1, e2, e3, Bool.or_false, Bool.false_eq_true, if_false]
  refine wpAny_bind (wpAny_pyIter_zip hz ?_)
  refine wpAny_bind (wpAny_holding ?_)
  unfold Builtin.List.listLengthHint
  refine wpAny_bind (wpAny_specialOf hT zip_len0 ?_)
  show wpAny _ A.in1 (specialOf (Value.ref zz) (Str.ofString "__length_hint__") >>= _) _ _ _
  refine wpAny_bind (wpAny_specialOf hT zip_hint0 ?_)
  refine wpAny_pure ?_
  show wpAny _ A.in1 (rule "list.extend.makes-room" >>= fun _ => Builtin.List.listTouch (.ref S) >>= fun _ => again (.builtin "list.extend.loop" ⟨[.ref S, .ref zz, res], []⟩)) _ _ _
  refine wpAny_bind (wpAny_rule ?_)
  refine wpAny_bind ?_
  show wpAny _ A.in1 (updateSeq S (·.push .none) >>= fun _ => updateSeq S (·.pop)) _ _ _
  refine wpAny_bind (wpAny_updateSeq hS rfl ?_)
  have hS2 := Heap.get?_update_self (Obj.mapSeq (·.push Value.none)) hS rfl
  refine wpAny_updateSeq (hz := by seq_fits) hS2 rfl ?_
  have hS3 := Heap.get?_update_self (Obj.mapSeq (·.pop)) hS2 rfl
  have oth : ∀ x o, x ≠ S → s.heap.get? x = some o → ((s.heap.update S (Obj.mapSeq (·.push Value.none))).update S (Obj.mapSeq (·.pop))).get? x = some o := fun x o hx e => (Heap.get?_update_other _ _ (Ne.symm hx)).trans ((Heap.get?_update_other _ _ (Ne.symm hx)).trans e)
  refine wpAny_pure ⟨plainId_quiet PySem.F.plain_extend_loop _, ?_⟩
  have st0 : ZkSt s.heap zz ti tr j1 j2 a1 a2 S us vs 0 := ⟨hp, i1, i2, t1, t2, .inl ⟨hz, a, b, hr⟩⟩
  exact zk_loop (s := s) (h0 := s.heap) hh D L rfl hn res hR (min us.size vs.size) 0 _ s.toks _ #[] [] (Nat.sub_zero _) (Nat.zero_le _) (st0.keep L oth) (fun x o n0 _ _ _ _ e => oth x o n0 e) hS3 rfl rfl ⟨List.Pairwise.nil, (fun _ z => nomatch z), fun j x hj => by simp at hj⟩
theorem zk_init (hh : A.handled = none) (D : ZipApart zz ti tr j1 j2 a1 a2) (L : ZkLow zz ti tr j1 j2 a1 a2 S) (hz : IsZip s.heap zz ti tr .none) (hp : IsPair s.heap ti (.ref j1) (.ref j2)) {a b : Value} (hr : IsPair s.heap tr a b) (i1 : s.heap.IsTupleIter j1 a1 0) (i2 : s.heap.IsTupleIter j2 a2 0)
    (t1 : s.heap.IsTuple a1 us) (t2 : s.heap.IsTuple a2 vs) (hS : s.heap.get? S = some { cls := .type "list", data := .seq #[] }) (hn : min us.size vs.size ≤ sizeLine)
    (hR : ∀ g tk acc c as, (∀ b o, b ≠ S → b ≠ zz → b ≠ tr → b ≠ j1 → b ≠ j2 → s.heap.get? b = some o → g.get? b = some o) → g.get? S = some (LsO acc c) → as.length = min us.size vs.size → ZkG us vs S g as → acc.toList = as.map Value.ref → R (.ok (.ret .none)) { s with heap := g, toks := tk }) :
    wpAny (model prog w) A.in1 (Builtin.«list.__init__» ⟨[.ref S, .ref zz], []⟩)
      (fun fin t => match fin with | .done f => R (.ok f) t | .again c' => c'.quiet = true ∧ codeAny (model prog w) A c' R t) (fun e t => R (.error e) t) s := by
  show wpAny _ _ (do let old ← Builtin.List.listItems (.ref S); Builtin.List.listUpdate (.ref S) (fun _ => #[]); letGo old.toList.reverse; Builtin.List.listExtendWith (.ref S) (.ref zz) .none) _ _ s
  refine wpAny_bind ?_
  unfold Builtin.List.listItems
  refine wpAny_bind (wpAny_seqItems hS rfl (wpAny_pure ?_))
  show wpAny _ _ (updateSeq S (fun _ => #[]) >>= fun _ => letGo (#[] : Array Value).toList.reverse >>= fun _ => Builtin.List.listExtendWith (.ref S) (.ref zz) .none) _ _ s
  refine wpAny_bind (wpAny_updateSeq hS rfl ?_)
  have hS2 := Heap.get?_update_self (Obj.mapSeq (fun _ => (#[] : Array Value))) hS rfl
  have oth : ∀ x o, x ≠ S → s.heap.get? x = some o → (s.heap.update S (Obj.mapSeq (fun _ => (#[] : Array Value)))).get? x = some o := fun x o hx e => (Heap.get?_update_other _ _ (Ne.symm hx)).trans e
  refine wpAny_bind (wpAny_letGo ?_)
  have n : ∀ {c : Addr}, c < S → c ≠ S := fun e => Nat.ne_of_lt e
  exact zk_extend hh D L (oth _ _ (n L.z) hz) (oth _ _ (n L.i) hp) (oth _ _ (n L.r) hr) (i1.at fun o e => oth _ o (n L.j) e) (i2.at fun o e => oth _ o (n L.k) e) (t1.at fun o e => oth _ o (n L.a) e) (t2.at fun o e => oth _ o (n L.b) e) .none _ hS2 hn
    fun g tk acc c as k hS' hl hG ha => hR g tk acc c as (fun x o n0 n1 n2 n3 n4 e => k x o n0 n1 n2 n3 n4 (oth x o n0 e)) hS' hl hG ha
end
section
variable {prog : Program} {w : World} {A : Around} {E : Value → Shared → Prop} {s : Shared} {zz ti tr j1 j2 a1 a2 : Addr} {us vs : Array Value}
theorem zk_call {Q : Value → Shared → Prop} (hh : A.handled = none) (D : ZipApart zz ti tr j1 j2 a1 a2) (hz : IsZip s.heap zz ti tr .none) (hp : IsPair s.heap ti (.ref j1) (.ref j2)) {a b : Value} (hr : IsPair s.heap tr a b) (i1 : s.heap.IsTupleIter j1 a1 0) (i2 : s.heap.IsTupleIter j2 a2 0)
    (t1 : s.heap.IsTuple a1 us) (t2 : s.heap.IsTuple a2 vs) (hn : min us.size vs.size ≤ sizeLine)
    (hQ : ∀ g tk acc c as, (∀ b o, b ≠ zz → b ≠ tr → b ≠ j1 → b ≠ j2 → s.heap.get? b = some o → g.get? b = some o) → g.get? s.heap.objs.size = some (LsO acc c) → as.length = min us.size vs.size → ZkG us vs s.heap.objs.size g as → acc.toList = as.map Value.ref → Q (.ref s.heap.objs.size) { s with heap := g, toks := tk }) :
    wpAny (model prog w) A (call (.type "list") [.ref zz]) Q E s := by
  refine callType_codes (Q₁ := fun ob t => ob = .ref s.heap.objs.size ∧ t = { s with heap := s.heap.push { cls := .type "list", data := .seq #[] } }) PySem.F.called_list (PySem.F.typeCall_list_1 _) PySem.F.entry_list_init
    (code_list_new _ ⟨rfl, rfl⟩) fun ob t h => ?_
  obtain ⟨rfl, rfl⟩ := h
  have hS : (s.heap.push { cls := .type "list", data := .seq #[] }).get? s.heap.objs.size = some { cls := .type "list", data := .seq #[] } := Heap.get?_push_size _ rfl
  have L : ZkLow zz ti tr j1 j2 a1 a2 s.heap.objs.size := ⟨Heap.lt_size hz, Heap.lt_size hp, Heap.lt_size hr, let ⟨_, e, _⟩ := i1; Heap.lt_size e, let ⟨_, e, _⟩ := i2; Heap.lt_size e, let ⟨_, e, _⟩ := t1; Heap.lt_size e, let ⟨_, e, _⟩ := t2; Heap.lt_size e⟩
  have up : ∀ x o, s.heap.get? x = some o → (s.heap.push { cls := .type "list", data := .seq #[] }).get? x = some o := fun x o e => Heap.get?_push_of_some _ e
  refine ⟨⟨_, hS, rfl⟩, PySem.F.args_list_init_2 _ _, zk_init (A := A.in1) hh D L (up _ _ hz) (up _ _ hp) (up _ _ hr) (i1.at fun o e => up _ o e) (i2.at fun o e => up _ o e) (t1.at fun o e => up _ o e) (t2.at fun o e => up _ o e) hS hn fun g tk acc c as k hS' hl hG ha => ?_⟩
  exact ⟨rfl, hQ g tk acc c as (fun x o n1 n2 n3 n4 e => k x o (Nat.ne_of_lt (Heap.lt_size e)) n1 n2 n3 n4 (up x o e)) hS' hl hG ha⟩
end
end DL
namespace DL
open PySem PySem.Spec PyProof.Rows L2 PySem.W
/-- the pairs at their addresses -/
def putP : Hp → List Addr → List (V × V) → Hp
  | H, a :: as, p :: r => putP (upd H a (.tup [p.1, p.2])) as r
  | H, _, _ => H
theorem putP_off {b : Addr} : ∀ (as : List Addr) (r : List (V × V)) (H : Hp), b ∉ as → putP H as r b = H b
  | [], _, _, _ => rfl
  | _ :: _, [], _, _ => rfl
  | a :: as, p :: r, H, h => by
    have n : b ≠ a := fun z => h (by rw [z]; exact List.mem_cons_self)
    show putP (upd H a (.tup [p.1, p.2])) as r b = H b
    rw [putP_off as r _ (fun z => h (List.mem_cons_of_mem _ z)), upd_ne n]
theorem putP_at : ∀ (as : List Addr) (r : List (V × V)) (H : Hp) (j : Nat) (a : Addr) (p : V × V), as.Nodup → as[j]? = some a → r[j]? = some p → putP H as r a = some (.tup [p.1, p.2])
  | [], _, _, _, _, _, _, h, _ => by simp at h
  | _ :: _, [], _, _, _, _, _, _, h => by simp at h
  | a :: as, p :: r, H, 0, b, q, hn, h1, h2 => by
    cases h1; cases h2
    have hn' := List.nodup_cons.mp hn
    show putP (upd H a (.tup [p.1, p.2])) as r a = _
    rw [putP_off as r _ hn'.1, upd_same]
  | a :: as, p :: r, H, j + 1, b, q, hn, h1, h2 => putP_at as r (upd H a (.tup [p.1, p.2])) j b q (List.nodup_cons.mp hn).2 h1 h2
theorem kp_putP {ts : List Addr} : ∀ (as : List Addr) (r : List (V × V)) (H : Hp), (∀ t ∈ ts, TabC H t) → (∀ a ∈ as, H a = none) → as.Nodup → Kp ts H (putP H as r)
  | [], _, H, t, _, _ => ⟨Keep.refl _ _, t⟩
  | _ :: _, [], H, t, _, _ => ⟨Keep.refl _ _, t⟩
  | a :: as, p :: r, H, t, n, nd => by
    have nd' := List.nodup_cons.mp nd
    have k1 : Kp ts H (upd H a (.tup [p.1, p.2])) := Kp.new t (n a List.mem_cons_self)
    refine k1.trans (kp_putP as r _ k1.t (fun b hb => ?_) nd'.2)
    rw [upd_ne (fun z => nd'.1 (by rw [← z]; exact hb))]
    exact n b (List.mem_cons_of_mem _ hb)
theorem refs_vals : ∀ as : List Addr, Vals (as.map V.ref) (as.map Value.ref)
  | [] => .nil
  | _ :: as => .cons rfl (refs_vals as)
section
variable {X : Cx} {e e2 : Expr} {ta : TA} {p p2 q pos : Pos}
theorem zip_get? {α β : Type} : ∀ {xs : List α} {ys : List β} {j : Nat} {x : α} {y : β}, xs[j]? = some x → ys[j]? = some y → (xs.zip ys)[j]? = some (x, y)
  | _ :: _, _ :: _, 0, _, _, h1, h2 => by cases h1; cases h2; rfl
  | _ :: xs, _ :: ys, j + 1, _, _, h1, h2 => zip_get? (xs := xs) (ys := ys) h1 h2
theorem laid_pairs {pins : List (Addr × Obj)} {σ : L2.St} {H : Hp} {s : Shared} {g : Heap} {tk : Nat} {xs ys : List V} {us vs : List Value} {acc : Array Value} {c : Nat} {as : List Addr} {P : Addr} (I : Inv X pins σ H s) (h1 : Vals xs us) (h2 : Vals ys vs) (hz : (xs.zip ys).length ≤ sizeLine)
    (hP : s.heap.objs.size ≤ P) (hk : ∀ b o, s.heap.get? b = some o → g.get? b = some o) (hS : g.get? P = some (LsO acc c)) (hl : as.length = (xs.zip ys).length) (hG : ZkG us.toArray vs.toArray P g as) (ha : acc.toList = as.map Value.ref) :
    as.Nodup ∧ H P = none ∧ (∀ t ∈ as, H t = none) ∧ P ∉ as ∧ Inv X pins σ (putP (upd H P (.lst (as.map V.ref))) as (xs.zip ys)) { s with heap := g, toks := tk } := by
  have nP : P ∉ as := fun z => Nat.lt_irrefl _ (hG.above _ z)
  have nd : as.Nodup := List.Pairwise.imp (fun {a b} (h : a < b) => Nat.ne_of_lt h) hG.rise
  have new : ∀ t ∈ as, H t = none := fun t ht => I.hok.fresh (Nat.le_trans hP (Nat.le_of_lt (hG.above t ht)))
  have newP : H P = none := I.hok.fresh hP
  refine ⟨nd, newP, new, nP, ?_⟩
  have off : ∀ b, b ∉ as → b ≠ P → putP (upd H P (.lst (as.map V.ref))) as (xs.zip ys) b = H b := fun b n1 n2 => by rw [putP_off as _ _ n1, upd_ne n2]
  have low : ∀ b o, s.heap.get? b = some o → b ∉ as ∧ b ≠ P := fun b o e => ⟨fun z => absurd (Heap.lt_size e) (Nat.not_lt.mpr (Nat.le_trans hP (Nat.le_of_lt (hG.above b z)))), Nat.ne_of_lt (Nat.lt_of_lt_of_le (Heap.lt_size e) hP)⟩
  have kp : ∀ b u, H b = some u → (putP (upd H P (.lst (as.map V.ref))) as (xs.zip ys)) b = some u := fun b u z => by
    rw [off b (fun y => by rw [new b y] at z; cases z) (fun y => by rw [y, newP] at z; cases z)]
    exact z
  have atP : putP (upd H P (.lst (as.map V.ref))) as (xs.zip ys) P = some (.lst (as.map V.ref)) := by rw [putP_off as _ _ nP, upd_same]
  refine I.call' (ch := []) rfl ⟨fun b o z _ _ _ => hk b o z, fun b o z _ _ _ => ⟨o.slots, hk b o z⟩, fun b o z n _ => ?_, fun b o z _ => ⟨o, hk b o z⟩, fun b l z => kp b _ z, fun b o u z => kp b _ z, fun b ps z => ⟨#[], by rw [kp b _ z]; simp⟩⟩ (fun b u z => ?_) I.bare fun b z => by simp at z
  · obtain ⟨m1, m2⟩ := low b o z
    rw [off b m1 m2]
    exact n
  · by_cases hb : b ∈ as
    · obtain ⟨j, hj⟩ := List.mem_iff_getElem?.mp hb
      obtain ⟨u1, v1, f1, f2, f3⟩ := hG.pairs j b hj
      have f1 : us[j]? = some u1 := by simpa using f1
      have f2 : vs[j]? = some v1 := by simpa using f2
      have l1 := h1.length
      have l2 := h2.length
      have g1 : j < us.length := (List.getElem?_eq_some_iff.mp f1).1
      have g2 : j < vs.length := (List.getElem?_eq_some_iff.mp f2).1
      obtain ⟨x, ex⟩ : ∃ x, xs[j]? = some x := ⟨_, List.getElem?_eq_getElem (by omega)⟩
      obtain ⟨y, ey⟩ : ∃ y, ys[j]? = some y := ⟨_, List.getElem?_eq_getElem (by omega)⟩
      obtain ⟨u2, e1, r1⟩ := h1.get ex
      obtain ⟨v2, e2, r2⟩ := h2.get ey
      rw [f1] at e1; cases e1
      rw [f2] at e2; cases e2
      rw [putP_at as _ _ j b (x, y) nd hj (zip_get? ex ey)] at z
      cases z
      exact ⟨by show 2 ≤ sizeLine; decide, [u1, v1], .cons r1 (.cons r2 .nil), ⟨_, f3, rfl, _, rfl⟩⟩
    · by_cases hb2 : b = P
      · rw [hb2] at z ⊢
        rw [atP] at z
        cases z
        refine ⟨by rw [List.length_map]; omega, acc.toList, c, by rw [ha]; exact refs_vals as, ?_⟩
        rw [Array.toArray_toList]
        exact hS
      · rw [off b hb hb2] at z
        exact (I.hok b u z).stay (fun d v _ y => hk d v y) (fun d y => kp d _ y) fun d l y => kp d _ y
def tZL (K : Fr) (ta : TA) : TE := fun σ H Q => ta σ H fun vs H1 => ∃ a b xs ys, vs = [.ref a, .ref b] ∧ SqT K H1 a xs ∧ SqT K H1 b ys ∧ (xs.zip ys).length ≤ 1000000 ∧
  ∀ P as, H1 P = none → (∀ t ∈ as, H1 t = none) → P ∉ as → as.Nodup → as.length = (xs.zip ys).length → Q (.ref P) (putP (upd H1 P (.lst (as.map V.ref))) as (xs.zip ys))
theorem pe_listZip (hc : X.calm = true) (hg : Gl X "list") (hm : X.mg "list" = none) (hgz : Gl X "zip") (hmz : X.mg "zip" = none) (ha : PA X [e, e2] ta)
    (hs : starEach [e, e2] X.env = (false, eval e X.env) :: starEach [e2] X.env := by rfl) (hpl : (backTo q (starEach [e2] X.env)).any (·.1) = false := by rfl)
    (na : starEach [.Call (.Name "zip" p2) [e, e2] [] q] X.env = (false, eval (.Call (.Name "zip" p2) [e, e2] [] q) X.env) :: starEach [] X.env := by rfl) :
    PE X (.Call (.Name "list" p) [.Call (.Name "zip" p2) [e, e2] [] q] [] pos) (tZL X.K ta) := by
  refine ⟨fun pins s σ H Q I h => ?_⟩
  refine Call_ (ld_blt I hg hm PyProof.Rows.boot_list ?_)
  refine PyProof.Rows.callWith_type1 (PyProof.Rows.args_cons (Call_ (ld_blt I hgz hmz PyProof.Rows.boot_zip (PyProof.Rows.callWith_type1 (thn (ha.run q pins s σ H _ I h) fun us s1 ⟨vs, H1, I1, r1, q1⟩ => ?_) hs hpl))) na) na rfl
  obtain ⟨a, b, xs, ys, ex, sa, sb, hz, q1⟩ := q1
  subst ex
  cases r1 with
  | cons r rr =>
    cases rr with
    | cons r' rr =>
      cases rr
      cases r
      cases r'
      obtain ⟨ia, ra, pa, _⟩ := I1.tuple sa
      obtain ⟨ib, rb, pb, _⟩ := I1.tuple sb
      obtain ⟨o1, ho1, _⟩ := id pa
      obtain ⟨o2, ho2, _⟩ := id pb
      refine RZ.call_zipT (show s1.heap.IsTuple a ia.toArray from pa) (show s1.heap.IsTuple b ib.toArray from pb) fun h' hzz hTI hTO h1 h2 hsz hk => ?_
      refine PyProof.Rows.args_nil ?_
      have la := ra.length
      have lb := rb.length
      have hlz : (xs.zip ys).length = min ia.toArray.size ib.toArray.size := by rw [List.length_zip, List.size_toArray, List.size_toArray, la, lb]
      refine zk_call (I1.ok.hd hc) (PySem.W.ktu_apart s1.heap.objs.size a b (Heap.lt_size ho1) (Heap.lt_size ho2)) hzz hTI hTO h1 h2 ((show s1.heap.IsTuple a ia.toArray from pa).at fun o z => hk _ o z) ((show s1.heap.IsTuple b ib.toArray from pb).at fun o z => hk _ o z) (by rw [← hlz]; have : sizeLine = 16777216 := sizeLine_eq; omega) fun g tk acc c as k hS hl hG hacc => ?_
      have hsz' : ∀ n, n = h'.objs.size → s1.heap.objs.size ≤ n := fun n z => by rw [z, hsz]; exact Nat.le_add_right _ _
      obtain ⟨nd, nP, new, nPa, J⟩ := laid_pairs (tk := tk) (P := h'.objs.size) I1 ra rb (by have : sizeLine = 16777216 := sizeLine_eq; omega) (hsz' _ rfl) (fun x o z => by
        have lt := Heap.lt_size z
        have up : ∀ n, x ≠ s1.heap.objs.size + n := fun n => Nat.ne_of_lt (Nat.lt_of_lt_of_le lt (Nat.le_add_right _ _))
        exact k x o (up 4) (up 3) (up 0) (up 1) (hk x o z)) hS (by rw [hlz]; exact hl) hG hacc
      exact ⟨.ref _, _, J, rfl, q1 _ as nP new nPa nd (by rw [hlz]; exact hl)⟩
end
/-- list(zip(a, b)) of two tuples -/
def zipL : PyData → PyData → Option AV
  | .tuple x, .tuple y => if lenOk (zipD x y).length then some (dn (.list (zipD x y))) else none
  | _, _ => none
section
variable {K : Fr} {P : Pd}
theorem fz_pairs {H : Hp} : ∀ {xs ys : List V} {ds es : List PyData} {as : List Addr}, FzA K P H xs ds → FzA K P H ys es → as.length = (xs.zip ys).length → (∀ (j : Nat) (a : Addr) (p : V × V), as[j]? = some a → (xs.zip ys)[j]? = some p → H a = some (.tup [p.1, p.2])) → FzA K P H (as.map V.ref) (zipD ds es)
  | [], _, _, _, as, h1, _, hl, _ => by
    cases h1
    cases as with
    | nil => exact .nil
    | cons a as => simp at hl
  | _ :: _, [], _, _, as, h1, h2, hl, _ => by
    cases h1; cases h2
    cases as with
    | nil => exact .nil
    | cons a as => simp at hl
  | x :: xs, y :: ys, _, _, as, h1, h2, hl, h => by
    cases h1 with
    | cons a1 b1 =>
      cases h2 with
      | cons a2 b2 =>
        cases as with
        | nil => simp at hl
        | cons a as => exact .cons (.tup (.inl (.inl (h 0 a (x, y) rfl rfl))) (.cons a1 (.cons a2 .nil))) (fz_pairs b1 b2 (by simpa using hl) fun j b p e1 e2 => h (j + 1) b p e1 e2)
end
section
variable {X : Cx} {W : WX} {e e2 : Expr} {ga gb : AE → Rs PyData} {p p2 q pos : Pos}
theorem de_listZip (hc : X.calm = true) (hg : Gl X "list") (hm : X.mg "list" = none) (hgz : Gl X "zip") (hmz : X.mg "zip" = none) (ha : DR X W e ga) (hb : DR X W e2 gb)
    (hs : starEach [e, e2] X.env = (false, eval e X.env) :: starEach [e2] X.env := by rfl) (hs2 : starEach [e2] X.env = (false, eval e2 X.env) :: starEach [] X.env := by rfl) (hpl : (backTo q (starEach [e2] X.env)).any (·.1) = false := by rfl)
    (na : starEach [.Call (.Name "zip" p2) [e, e2] [] q] X.env = (false, eval (.Call (.Name "zip" p2) [e, e2] [] q) X.env) :: starEach [] X.env := by rfl) :
    DE X W (.Call (.Name "list" p) [.Call (.Name "zip" p2) [e, e2] [] q] [] pos) (eB zipL ga gb) :=
  pe_mono (pe_listZip hc hg hm hgz hmz (pa_cons ha (pa_cons hb pa_nil hs2) hs) hs hpl na) fun σ H Q ⟨c, σa, Z, z⟩ => ⟨c, σa, Z, (Go.bind (show Go X.K W c σ H ((ga σa).bind fun d => (gb σa).bind fun e => Rs.of (zipL d e)) _ from z)).mono fun d z v H1 k1 r1 => ⟨c, σa, Z.kp k1, ((Go.bind z).later k1).mono fun e z w H2 k2 r2 => by
    obtain ⟨av, ev, z⟩ := go_of z
    cases d with
    | tuple x =>
      cases e with
      | tuple y =>
        have ev : (if lenOk (zipD x y).length then some (dn (.list (zipD x y))) else none) = some av := ev
        by_cases hl : lenOk (zipD x y).length
        · rw [if_pos hl] at ev
          cases ev
          obtain ⟨a, xs, rfl, sa, fa⟩ := br_tup (r1.keep0 k2.k)
          obtain ⟨b, ys, rfl, sb, fb⟩ := br_tup r2
          have hlen : (xs.zip ys).length = (zipD x y).length := by
            unfold zipD
            rw [List.length_zip, List.length_zipWith, fa.length, fb.length]
          have hle := hl.le
          refine ⟨a, b, xs, ys, rfl, sa, sb, by omega, fun P as nP new nPa nd hal => ?_⟩
          have Z2 := Z.kp (k1.trans k2)
          have kn : Kp c.tabs H2 (upd H2 P (.lst (as.map V.ref))) := Kp.new Z2.tab nP
          have kq : Kp c.tabs (upd H2 P (.lst (as.map V.ref))) (putP (upd H2 P (.lst (as.map V.ref))) as (xs.zip ys)) := kp_putP as _ _ kn.t (fun t ht => by
            rw [upd_ne (fun z => nPa (by rw [← z]; exact ht))]
            exact new t ht) nd
          have kk := kn.trans kq
          refine z _ _ ((k1.trans k2).trans kk) ⟨P, rfl, (k1.trans k2).k.fresh nP, .lst (as.map V.ref), by rw [putP_off as _ _ nPa, upd_same], .lst ?_⟩
          have up : ∀ a, (Pr c σa σ a ∨ a = P) → Pr c σa σ a ∨ H2 a = none := fun a z => z.elim .inl fun e => .inr (by rw [e]; exact nP)
          exact fz_pairs (fa.mono kk.k.any up) (fb.mono kk.k.any up) hal fun j b p e1 e2 => putP_at as _ _ j b p nd e1 e2
        · rw [if_neg hl] at ev
          cases ev
      | _ => cases ev
    | _ => cases ev⟩⟩
end
/-- x.insert(k, e) -/
def sIns (i : Nat) (gk g : AE → Rs PyData) : SM := fun s => onL i s fun l => sB (gk s) s fun k => sB (g s) s fun d => match k with
  | .int z => if 0 ≤ z ∧ z ≤ 1000000 ∧ lenOk (l.length + 1) then .nx (putL i s (.list (l.take z.toNat ++ [d] ++ l.drop z.toNat))) else .st
  | _ => .st
section
variable {X : Cx} {e o ie : Expr} {f : AE → Rs AV} {g gk : AE → Rs PyData} {pos pos' apos cpos p : Pos} {i : Nat} {x : PySem.Str} {W : WX}
theorem ds_ins (hk' : DR X W ie gk) (hg : DF X W e g) (hN : X.N[i]? = some x := by rfl) (hv : Vis X.env.scope x := by first | exact Or.inl rfl | exact Or.inr (Or.inl rfl) | exact Or.inr (Or.inr rfl)) (hd : (x == ("__debug__" : PySem.Str)) = false := by decide) (hcd : (x == ("__classdict__" : PySem.Str)) = false := by decide)
    (hbase : attributeBase (.Name x p) "insert" X.env (eval (.Name x p) X.env) = eval (.Name x p) X.env := by rfl)
    (hfew : ((backTo cpos (starEach [ie, e] X.env)).all (fun x => !x.1) && (backToKw cpos (keywordEach [] X.env)).all (fun x => x.1.isSome) && decide (([ie, e] : List Expr).length + ([] : List Keyword).length + (if ([] : List Keyword).isEmpty then 0 else 1) < 30)) = true := by rfl)
    (hline : (apos.endLine == cpos.line) = true := by rfl) (hs : starEach [ie, e] X.env = (false, eval ie X.env) :: starEach [e] X.env := by rfl) (hs2 : starEach [e] X.env = (false, eval e X.env) :: starEach [] X.env := by rfl) (hplain : (backTo cpos (starEach [e] X.env)).any (·.1) = false := by rfl)
    (hsw : swapsWith (.Call (.Attribute (.Name x p) "insert" apos) [ie, e] [] cpos) none pos.line X.env = pure false := by rfl) :
    DS X W (.Expr (.Call (.Attribute (.Name x p) "insert" apos) [ie, e] [] cpos) pos) (sIns i gk g) := ps_mono (ps_expr (pe_bm PySem.F.plainAttrs_list PySem.F.slot_list_insert PySem.F.type_list_insert mt_insert (pe_var hN hv hd hcd) (pa_cons hk' (pa_cons hg pa_nil hs2) hs) hbase hfew hline hs hplain) hsw) fun D σ H ⟨c, σa, Z, q⟩ => by
  obtain ⟨k, l, e1, hk, q, hput⟩ := onL_case q
  obtain ⟨a, ha, own⟩ := ev_own Z e1 hk
  obtain ⟨o, eo, co⟩ := own
  cases co with
  | lst fz =>
  rename_i xs
  refine ⟨_, ha, .inl ⟨rfl, xs, .inl (.inl eo)⟩, c, σa, Z, (go_b Z q).mono fun d q v H1 k1 r1 => ⟨c, σa, Z.kp k1, (go_b (Z.kp k1) q).mono fun d2 q w H2 k2 r2 => ?_⟩⟩
  have k12 := k1.trans k2
  have eo2 : H2 a = some (.lst xs) := k12.k.oth a _ eo (fun z => z) (fun ps z => by cases z)
  cases d with
  | int z =>
    cases br_int r1
    have q : GoS X.K W c D (if 0 ≤ z ∧ z ≤ 1000000 ∧ lenOk (l.length + 1) then .nx (putL i σa (.list (l.take z.toNat ++ [d2] ++ l.drop z.toNat))) else .st) := q
    by_cases hl : 0 ≤ z ∧ z ≤ 1000000 ∧ lenOk (l.length + 1)
    · rw [if_pos hl] at q
      obtain ⟨h0, h1, hl⟩ := hl
      refine ⟨a, xs, z, w, rfl, rfl, eo2, lenOk.lt (by rw [fz.length]; exact lenOk.of (by have := hl.le; omega)), h0, by omega, ?_⟩
      have Z2 := Z.kp k12
      rw [hput] at q
      refine q σ _ (rst_write Z2 e1 hk ha ?_)
      have kp : Keep (Pr c σa σ) H2 (upd H2 a (.lst (xs.take z.toNat ++ [w] ++ xs.drop z.toNat))) := (Keep.set (P := fun x => x = a) rfl (own_noTup ⟨_, eo2, .lst (fz.keep0 k12.k)⟩)).imp fun x z => by rw [z]; exact .inl ⟨i, k, _, e1, ha⟩
      have f2 := fz.keep0 k12.k
      exact .lst ((((f2.take _).append (.cons r2 .nil)).append (f2.drop _)).mono kp fun _ z => .inl z)
    · rw [if_neg hl] at q
      exact q.elim
  | _ => exact q.elim
end
end DL
namespace LW
open PySem PySem.Spec PyProof.Rows L2 DL
def top (i : Nat) : Stmt := PySem.Challenge.pw_airfieldworks_k37_whole_flights_within_a.main.body.getD i (.Pass ⟨0, 0, 0, 0⟩)
abbrev bd (i : Nat) : List Stmt := defBody (top i)
abbrev sc (i : Nat) : Scope := defScope (top i)
def mk (x : Str) (i : Nat) (dfl : List He.Dv) : He.DefD := ⟨(x, none), x, x, defArgs (top i), defBody (top i), defScope (top i), dfl, []⟩
def fn : List He.DefD := ([mk "is_whole" 4 [.non], mk "most_flights" 6 [], mk "best_worth" 7 [], mk "part_bound" 8 [], mk "by_ratio" 9 [], mk "_law_cell" 11 [], mk "_law_draws" 12 [], mk "_law_low" 13 [], mk "_law_refuses" 14 [], mk "law" 15 []] : List He.DefD)
def tf : List He.Defn := ([("is_whole", none), ("most_flights", none), ("best_worth", none), ("part_bound", none), ("by_ratio", none), ("_law_cell", none), ("_law_draws", none), ("_law_low", none), ("_law_refuses", none), ("law", none)] : List He.Defn)
def fa : List He.Fa := ([.glo "is_whole", .glo "most_flights", .glo "best_worth", .glo "part_bound", .glo "by_ratio", .glo "_law_cell", .glo "_law_draws", .glo "_law_low", .glo "_law_refuses", .glo "law", .glo "BadClaim", .free "abs"] : List He.Fa) ++ ([.free "all", .free "bool", .free "int", .free "isinstance", .free "len", .free "list", .free "max", .free "min", .free "range", .free "sorted", .free "sum", .free "tuple"] : List He.Fa) ++ ([.free "zip", .exc "BadClaim", .exm "BadClaim" "BadClaim" true] : List He.Fa)
def gts : List (Str × List He.Dv) := []
def ex : PySem.W.Frag → Bool := fun K => ((TabsOf K).all fun t => tf.any fun p => (He.cT K p).2 == t) && (tf.all fun p => (TabsOf K).contains (He.cT K p).2) && gts.all fun p => He.tupB K p.1 p.2 && plainB K p.1
/-- what is known of the written part -/
structure Fx (K : Fr) (mg : Str → Option Value) (base : Heap) : Prop where
  kin : K.In base
  ns : base.Ns mainGlobals mg
  c : He.SaysD fa fn K
  hd : ∀ p ∈ tf, PySem.W.codeHdIn K (He.cT K p).1 (He.cT K p).2 = true
  tb : ∀ p ∈ tf, LamX.TabB base mg (He.cT K p).1 (He.cT K p).2
  ti : ∀ p ∈ tf, (He.cT K p).2 ∈ TabsOf K
  gt : ∀ p ∈ gts, (He.tupB K p.1 p.2 && plainB K p.1) = true
theorem m_is_whole {K : Fr} {mg : Str → Option Value} {base : Heap} (F : Fx K mg base) : mg "is_whole" = some (.ref (He.ga K "is_whole")) := He.glo_ok F.kin F.ns (F.c.fact 0 (f := .glo "is_whole") rfl)
theorem m_most_flights {K : Fr} {mg : Str → Option Value} {base : Heap} (F : Fx K mg base) : mg "most_flights" = some (.ref (He.ga K "most_flights")) := He.glo_ok F.kin F.ns (F.c.fact 1 (f := .glo "most_flights") rfl)
theorem m_best_worth {K : Fr} {mg : Str → Option Value} {base : Heap} (F : Fx K mg base) : mg "best_worth" = some (.ref (He.ga K "best_worth")) := He.glo_ok F.kin F.ns (F.c.fact 2 (f := .glo "best_worth") rfl)
theorem m_part_bound {K : Fr} {mg : Str → Option Value} {base : Heap} (F : Fx K mg base) : mg "part_bound" = some (.ref (He.ga K "part_bound")) := He.glo_ok F.kin F.ns (F.c.fact 3 (f := .glo "part_bound") rfl)
theorem m_by_ratio {K : Fr} {mg : Str → Option Value} {base : Heap} (F : Fx K mg base) : mg "by_ratio" = some (.ref (He.ga K "by_ratio")) := He.glo_ok F.kin F.ns (F.c.fact 4 (f := .glo "by_ratio") rfl)
theorem m__law_cell {K : Fr} {mg : Str → Option Value} {base : Heap} (F : Fx K mg base) : mg "_law_cell" = some (.ref (He.ga K "_law_cell")) := He.glo_ok F.kin F.ns (F.c.fact 5 (f := .glo "_law_cell") rfl)
theorem m__law_draws {K : Fr} {mg : Str → Option Value} {base : Heap} (F : Fx K mg base) : mg "_law_draws" = some (.ref (He.ga K "_law_draws")) := He.glo_ok F.kin F.ns (F.c.fact 6 (f := .glo "_law_draws") rfl)
theorem m__law_low {K : Fr} {mg : Str → Option Value} {base : Heap} (F : Fx K mg base) : mg "_law_low" = some (.ref (He.ga K "_law_low")) := He.glo_ok F.kin F.ns (F.c.fact 7 (f := .glo "_law_low") rfl)
theorem m__law_refuses {K : Fr} {mg : Str → Option Value} {base : Heap} (F : Fx K mg base) : mg "_law_refuses" = some (.ref (He.ga K "_law_refuses")) := He.glo_ok F.kin F.ns (F.c.fact 8 (f := .glo "_law_refuses") rfl)
theorem m_law {K : Fr} {mg : Str → Option Value} {base : Heap} (F : Fx K mg base) : mg "law" = some (.ref (He.ga K "law")) := He.glo_ok F.kin F.ns (F.c.fact 9 (f := .glo "law") rfl)
theorem m_BadClaim {K : Fr} {mg : Str → Option Value} {base : Heap} (F : Fx K mg base) : mg "BadClaim" = some (.ref (He.ga K "BadClaim")) := He.glo_ok F.kin F.ns (F.c.fact 10 (f := .glo "BadClaim") rfl)
theorem m_abs {K : Fr} {mg : Str → Option Value} {base : Heap} (F : Fx K mg base) : mg "abs" = none := He.free_ok F.kin F.ns (F.c.fact 11 (f := .free "abs") rfl)
theorem m_all {K : Fr} {mg : Str → Option Value} {base : Heap} (F : Fx K mg base) : mg "all" = none := He.free_ok F.kin F.ns (F.c.fact 12 (f := .free "all") rfl)
theorem m_bool {K : Fr} {mg : Str → Option Value} {base : Heap} (F : Fx K mg base) : mg "bool" = none := He.free_ok F.kin F.ns (F.c.fact 13 (f := .free "bool") rfl)
theorem m_int {K : Fr} {mg : Str → Option Value} {base : Heap} (F : Fx K mg base) : mg "int" = none := He.free_ok F.kin F.ns (F.c.fact 14 (f := .free "int") rfl)
theorem m_isinstance {K : Fr} {mg : Str → Option Value} {base : Heap} (F : Fx K mg base) : mg "isinstance" = none := He.free_ok F.kin F.ns (F.c.fact 15 (f := .free "isinstance") rfl)
theorem m_len {K : Fr} {mg : Str → Option Value} {base : Heap} (F : Fx K mg base) : mg "len" = none := He.free_ok F.kin F.ns (F.c.fact 16 (f := .free "len") rfl)
theorem m_list {K : Fr} {mg : Str → Option Value} {base : Heap} (F : Fx K mg base) : mg "list" = none := He.free_ok F.kin F.ns (F.c.fact 17 (f := .free "list") rfl)
theorem m_max {K : Fr} {mg : Str → Option Value} {base : Heap} (F : Fx K mg base) : mg "max" = none := He.free_ok F.kin F.ns (F.c.fact 18 (f := .free "max") rfl)
theorem m_min {K : Fr} {mg : Str → Option Value} {base : Heap} (F : Fx K mg base) : mg "min" = none := He.free_ok F.kin F.ns (F.c.fact 19 (f := .free "min") rfl)
theorem m_range {K : Fr} {mg : Str → Option Value} {base : Heap} (F : Fx K mg base) : mg "range" = none := He.free_ok F.kin F.ns (F.c.fact 20 (f := .free "range") rfl)
theorem m_sorted {K : Fr} {mg : Str → Option Value} {base : Heap} (F : Fx K mg base) : mg "sorted" = none := He.free_ok F.kin F.ns (F.c.fact 21 (f := .free "sorted") rfl)
theorem m_sum {K : Fr} {mg : Str → Option Value} {base : Heap} (F : Fx K mg base) : mg "sum" = none := He.free_ok F.kin F.ns (F.c.fact 22 (f := .free "sum") rfl)
theorem m_tuple {K : Fr} {mg : Str → Option Value} {base : Heap} (F : Fx K mg base) : mg "tuple" = none := He.free_ok F.kin F.ns (F.c.fact 23 (f := .free "tuple") rfl)
theorem m_zip {K : Fr} {mg : Str → Option Value} {base : Heap} (F : Fx K mg base) : mg "zip" = none := He.free_ok F.kin F.ns (F.c.fact 24 (f := .free "zip") rfl)
theorem x_BadClaim {K : Fr} {mg : Str → Option Value} {base : Heap} (F : Fx K mg base) : (He.Fa.exc "BadClaim").ok K = true := F.c.fact 25 (f := .exc "BadClaim") rfl
def cat_BadClaim : Cat := fun e => if e = "BadClaim" then some true else none
theorem hct_BadClaim {K : Fr} {mg : Str → Option Value} {base : Heap} (F : Fx K mg base) : ∀ e b, cat_BadClaim e = some b → PySem.W.exmOne K (.ref (He.ga K e)) (.ref (He.ga K "BadClaim")) = some b := by
  intro e b q
  unfold cat_BadClaim at q
  by_cases h_BadClaim : e = "BadClaim"
  · rw [if_pos h_BadClaim] at q; cases q; rw [h_BadClaim]; exact of_decide_eq_true (F.c.fact 26 (f := .exm "BadClaim" "BadClaim" true) rfl)
  rw [if_neg h_BadClaim] at q
  cases q
abbrev N__law_draws : List Str := ["cell", "count", "result", "rest", "k", "mixed"]
theorem fs__law_draws : FnScope N__law_draws ["cell", "count"] (sc 12) := FnScope.ofB (by kernel_rfl)
theorem nd__law_draws : N__law_draws.Nodup := fs__law_draws.nd
theorem v__law_draws_cell : VO N__law_draws (sc 12) 0 "cell" := VO.of (by kernel_rfl)
theorem v__law_draws_count : VO N__law_draws (sc 12) 1 "count" := VO.of (by kernel_rfl)
theorem l__law_draws_result : LO N__law_draws (sc 12) 2 "result" := LO.of (by kernel_rfl)
theorem v__law_draws_result : VO N__law_draws (sc 12) 2 "result" := VO.of (by kernel_rfl)
theorem l__law_draws_rest : LO N__law_draws (sc 12) 3 "rest" := LO.of (by kernel_rfl)
theorem v__law_draws_rest : VO N__law_draws (sc 12) 3 "rest" := VO.of (by kernel_rfl)
theorem l__law_draws_k : LO N__law_draws (sc 12) 4 "k" := LO.of (by kernel_rfl)
theorem v__law_draws_k : VO N__law_draws (sc 12) 4 "k" := VO.of (by kernel_rfl)
theorem l__law_draws_mixed : LO N__law_draws (sc 12) 5 "mixed" := LO.of (by kernel_rfl)
theorem v__law_draws_mixed : VO N__law_draws (sc 12) 5 "mixed" := VO.of (by kernel_rfl)
theorem g__law_draws_int : goB (sc 12) "int" = true := by kernel_rfl
theorem g__law_draws_range : goB (sc 12) "range" = true := by kernel_rfl
abbrev dd__law_draws : List PyData := []
def m_b__law_draws : SM :=
  sSeq (sSet 2 (eLst (aNil)))
  (sSeq (sSet 3 (eCall intD (aCons (rd (eV 0)) (aNil))))
  (sSeq (sFor (iRg1 (rd (eV 1))) [] (tN 4)
  (sSeq (sSet 5 (eB modD (rd (eCall intD (aCons (rd (eB addD (rd (eB addD (rd (eB mulD (rd (eV 0)) (rd (eC (.int 48271))))) (rd (eB mulD (rd (eV 4)) (rd (eC (.int 69621))))))) (rd (eC (.int 1))))) (aNil)))) (rd (eC (.int 2147483647)))))
  (sIf (sV (eB geD (rd (eV 0)) (rd (eB powD (rd (eC (.int 10))) (rd (eC (.int 18))))))) (sSeq (sApp 2 (fz (eB modD (rd (eV 3)) (rd (eC (.int 1009))))))
  (sSet 3 (eB divD (rd (eV 3)) (rd (eC (.int 1009)))))) (sApp 2 (fz (eB divD (rd (eB modD (rd (eCall intD (aCons (rd (eB addD (rd (eB mulD (rd (eV 5)) (rd (eV 5)))) (rd (eB mulD (rd (eV 5)) (rd (eC (.int 40692))))))) (aNil)))) (rd (eC (.int 2147483399))))) (rd (eC (.int 7)))))))) [4, 5])
  (sRet (eV 2))))
def mf__law_draws : MF := mdef 6 [false, false] m_b__law_draws
theorem b__law_draws {P : Program} {w : World} {K : Fr} {mg : Str → Option Value} {base : Heap} (F : Fx K mg base) {f : Addr} {cd : Value} {A : Around} {outer : List Env} {s : Shared} {H : Hp} {E : XK} (hcd : cd = .ref (He.codeOf K ("_law_draws", none))) (hr : Room 0 (A.deeper (envOfC "_law_draws" (sc 12) s.heap.objs.size f cd))) :
    DB (cxD P w K mg base N__law_draws "_law_draws" (sc 12) f cd A outer s H E) (WB E) (bd 12) m_b__law_draws := by
  have tk := takes_D (P := P) (w := w) (K := K) (mg := mg) (base := base) (N := N__law_draws) (qual := "_law_draws") (scope := sc 12) (f := f) (cd := cd) (A := A) (outer := outer) (s := s) (H := H) (E := E)
  have hp := passes_D (P := P) (w := w) (K := K) (mg := mg) (base := base) (N := N__law_draws) (qual := "_law_draws") (scope := sc 12) (f := f) (cd := cd) (A := A) (outer := outer) (s := s) (H := H) (E := E)
  exact (db_cons (ds_st nd__law_draws l__law_draws_result (de_lst daz_nil))
  (db_cons (ds_st nd__law_draws l__law_draws_rest (de_int1 (go_sc g__law_draws_int) (m_int F) (dar_cons (de_rd (de_n v__law_draws_cell)) dar_nil)))
  (db_cons (ds_for hp rfl (di_rg1 (go_sc g__law_draws_range) (m_range F) (de_rd (de_n v__law_draws_count))) (dg_n nd__law_draws l__law_draws_k)
  (db_cons (ds_st nd__law_draws l__law_draws_mixed (de_mod (de_rd (de_int1 (go_sc g__law_draws_int) (m_int F) (dar_cons (de_rd (de_add (de_rd (de_add (de_rd (de_mul (de_rd (de_n v__law_draws_cell)) (de_rd de_int))) (de_rd (de_mul (de_rd (de_n v__law_draws_k)) (de_rd de_int))))) (de_rd de_int))) dar_nil))) (de_rd de_int)))
  (db_one (ds_if (dc_t (dc_ge (de_rd (de_n v__law_draws_cell)) (de_rd (de_pow (de_rd de_int) (de_rd de_int))))) (db_cons (ds_app (de_fz (de_mod (de_rd (de_n v__law_draws_rest)) (de_rd de_int))) v__law_draws_result.n v__law_draws_result.v v__law_draws_result.d v__law_draws_result.cd)
  (db_one (ds_st nd__law_draws l__law_draws_rest (de_div (de_rd (de_n v__law_draws_rest)) (de_rd de_int))))) (db_one (ds_app (de_fz (de_div (de_rd (de_mod (de_rd (de_int1 (go_sc g__law_draws_int) (m_int F) (dar_cons (de_rd (de_add (de_rd (de_mul (de_rd (de_n v__law_draws_mixed)) (de_rd (de_n v__law_draws_mixed)))) (de_rd (de_mul (de_rd (de_n v__law_draws_mixed)) (de_rd de_int))))) dar_nil))) (de_rd de_int))) (de_rd de_int))) v__law_draws_result.n v__law_draws_result.v v__law_draws_result.d v__law_draws_result.cd))))))
  (db_one (ds_ret (de_n v__law_draws_result))))))
theorem d__law_draws {P : Program} {w : World} {K : Fr} {mg : Str → Option Value} {base : Heap} (F : Fx K mg base) : DefOk P w K mg base 1 "_law_draws" [false, false] dd__law_draws mf__law_draws := by
  obtain ⟨fd, G⟩ := F.c.def_ 6 (d := mk "_law_draws" 12 []) rfl
  exact ⟨_, fd, ["cell", "count"], rfl, fn_def (p := ("_law_draws", none)) G rfl fs__law_draws rfl fun cd A outer s H E hcd hr => b__law_draws F hcd hr, m__law_draws F, G.kp, fun j hj => ⟨[], [], .nil, fun _ _ => by cases Nat.le_zero.mp hj; exact .nil, G.bindsN fun _ _ _ _ _ _ us hl => match us, hl with | [_, _], _ => rfl⟩⟩
abbrev N_is_whole : List Str := ["value", "low"]
theorem fs_is_whole : FnScope N_is_whole ["value", "low"] (sc 4) := FnScope.ofB (by kernel_rfl)
theorem nd_is_whole : N_is_whole.Nodup := fs_is_whole.nd
theorem v_is_whole_value : VO N_is_whole (sc 4) 0 "value" := VO.of (by kernel_rfl)
theorem v_is_whole_low : VO N_is_whole (sc 4) 1 "low" := VO.of (by kernel_rfl)
theorem g_is_whole_bool : goB (sc 4) "bool" = true := by kernel_rfl
theorem g_is_whole_int : goB (sc 4) "int" = true := by kernel_rfl
theorem g_is_whole_isinstance : goB (sc 4) "isinstance" = true := by kernel_rfl
abbrev dd_is_whole : List PyData := [.none]
def m_b_is_whole : SM :=
  sRet (eAnd (eU (isiD "int") (rd (eV 0))) (eAnd (eNot (rd (eU (isiD "bool") (rd (eV 0))))) (eOr (eB isD (rd (eV 1)) (rd (eC .none))) (eB geD (rd (eV 0)) (rd (eV 1))))))
def mf_is_whole : MF := mdef 2 [false, false] m_b_is_whole
theorem b_is_whole {P : Program} {w : World} {K : Fr} {mg : Str → Option Value} {base : Heap} (F : Fx K mg base) {f : Addr} {cd : Value} {A : Around} {outer : List Env} {s : Shared} {H : Hp} {E : XK} (hcd : cd = .ref (He.codeOf K ("is_whole", none))) (hr : Room 0 (A.deeper (envOfC "is_whole" (sc 4) s.heap.objs.size f cd))) :
    DB (cxD P w K mg base N_is_whole "is_whole" (sc 4) f cd A outer s H E) (WB E) (bd 4) m_b_is_whole := by
  have tk := takes_D (P := P) (w := w) (K := K) (mg := mg) (base := base) (N := N_is_whole) (qual := "is_whole") (scope := sc 4) (f := f) (cd := cd) (A := A) (outer := outer) (s := s) (H := H) (E := E)
  have hp := passes_D (P := P) (w := w) (K := K) (mg := mg) (base := base) (N := N_is_whole) (qual := "is_whole") (scope := sc 4) (f := f) (cd := cd) (A := A) (outer := outer) (s := s) (H := H) (E := E)
  exact (db_one (ds_ret (de_and (de_isi (go_sc g_is_whole_isinstance) (m_isinstance F) (go_sc g_is_whole_int) (m_int F) PyProof.Rows.boot_int (de_rd (de_n v_is_whole_value))) (de_and (de_not (de_rd (de_isi (go_sc g_is_whole_isinstance) (m_isinstance F) (go_sc g_is_whole_bool) (m_bool F) PyProof.Rows.boot_bool (de_rd (de_n v_is_whole_value))))) (de_one (de_or (dc_e (dc_is (de_rd (de_n v_is_whole_low)) (de_rd de_none))) (de_one (dc_e (dc_ge (de_rd (de_n v_is_whole_value)) (de_rd (de_n v_is_whole_low)))))))))))
theorem d_is_whole {P : Program} {w : World} {K : Fr} {mg : Str → Option Value} {base : Heap} (F : Fx K mg base) : DefOk P w K mg base 1 "is_whole" [false, false] dd_is_whole mf_is_whole := by
  obtain ⟨fd, G⟩ := F.c.def_ 0 (d := mk "is_whole" 4 [.non]) rfl
  exact ⟨_, fd, ["value", "low"], rfl, fn_def (p := ("is_whole", none)) G rfl fs_is_whole rfl fun cd A outer s H E hcd hr => b_is_whole F hcd hr, m_is_whole F, G.kp, fun j hj => match j, hj with
    | 0, _ => by
      obtain ⟨us, h1, h2⟩ := G.binds1 (ps := ["value", "low"]) 1 0 (by intro z; cases z) rfl fun _ _ _ _ _ _ _ us its hl h2 => match us, hl, its, h2 with | [_], _, [_], _ => ⟨_, rfl, rfl⟩
      exact ⟨_, us, h1, fun _ _ => .cons (.non) (.nil), h2⟩
    | 1, _ => by
      obtain ⟨us, h1, h2⟩ := G.binds1 (ps := ["value", "low"]) 2 1 (by intro z; cases z) rfl fun _ _ _ _ _ _ _ us its hl h2 => match us, hl, its, h2 with | [_, _], _, [_], _ => ⟨_, rfl, rfl⟩
      exact ⟨_, us, h1, fun _ _ => .nil, h2⟩
    | j + 2, hj => absurd hj (by show ¬ j + 2 ≤ 1; omega)⟩
abbrev N_most_flights : List Str := ["noises", "bound", "chosen", "total", "k", "one"]
theorem fs_most_flights : FnScope N_most_flights ["noises", "bound"] (sc 6) := FnScope.ofB (by kernel_rfl)
theorem nd_most_flights : N_most_flights.Nodup := fs_most_flights.nd
theorem v_most_flights_noises : VO N_most_flights (sc 6) 0 "noises" := VO.of (by kernel_rfl)
theorem v_most_flights_bound : VO N_most_flights (sc 6) 1 "bound" := VO.of (by kernel_rfl)
theorem s_most_flights_chosen : SO N_most_flights (sc 6) 2 "chosen" := SO.of (by kernel_rfl)
theorem v_most_flights_chosen : VO N_most_flights (sc 6) 2 "chosen" := VO.of (by kernel_rfl)
theorem l_most_flights_total : LO N_most_flights (sc 6) 3 "total" := LO.of (by kernel_rfl)
theorem s_most_flights_total : SO N_most_flights (sc 6) 3 "total" := SO.of (by kernel_rfl)
theorem v_most_flights_total : VO N_most_flights (sc 6) 3 "total" := VO.of (by kernel_rfl)
theorem l_most_flights_k : LO N_most_flights (sc 6) 4 "k" := LO.of (by kernel_rfl)
theorem v_most_flights_k : VO N_most_flights (sc 6) 4 "k" := VO.of (by kernel_rfl)
theorem g_most_flights_BadClaim : goB (sc 6) "BadClaim" = true := by kernel_rfl
theorem g_most_flights_all : goB (sc 6) "all" = true := by kernel_rfl
theorem g_most_flights_is_whole : goB (sc 6) "is_whole" = true := by kernel_rfl
theorem g_most_flights_isinstance : goB (sc 6) "isinstance" = true := by kernel_rfl
theorem g_most_flights_len : goB (sc 6) "len" = true := by kernel_rfl
theorem g_most_flights_range : goB (sc 6) "range" = true := by kernel_rfl
theorem g_most_flights_sorted : goB (sc 6) "sorted" = true := by kernel_rfl
theorem g_most_flights_tuple : goB (sc 6) "tuple" = true := by kernel_rfl
theorem tb_most_flights {K : Fr} {mg : Str → Option Value} {base : Heap} (F : Fx K mg base) : GxR.TabB base mg (He.codeOf K ("most_flights", none)) (He.cT K ("most_flights", none)).2 := let z := F.tb ("most_flights", none) (List.mem_of_getElem? (i := 1) rfl); ⟨z.code, z.bm, z.gP⟩
theorem ti_most_flights {K : Fr} {mg : Str → Option Value} {base : Heap} (F : Fx K mg base) : (He.cT K ("most_flights", none)).2 ∈ TabsOf K := F.ti ("most_flights", none) (List.mem_of_getElem? (i := 1) rfl)
abbrev dd_most_flights : List PyData := []
def m_b_most_flights : SM :=
  sSeq (sIf (sOr (sNot (sT (rd (eU (isiD "tuple") (rd (eV 0)))))) (sOr (sNot (sT (rd (eGx true (iSeqA (lsFor (eV 0) [0])) [5] (tN 5) (sYes) (sV (eDef mf_is_whole (aCons (rd (eV 5)) (aCons (rd (eC (.int 0))) (aNil))) (dd_is_whole.drop 1))))))) (sNot (sT (rd (eDef mf_is_whole (aCons (rd (eV 1)) (aCons (rd (eC (.int 0))) (aNil))) (dd_is_whole.drop 1))))))) (sRaise "BadClaim") (sPass))
  (sSeq (sPar [2, 3] (pCons (eLst (aNil)) (pCons (eC (.int 0)) (pNil))))
  (sSeq (sFor (iSeqA (lsFor (eSortK (iRg1 (rd (eCall lenD (aCons (rd (eV 0)) (aNil))))) 5 (eTup (aCons (fz (eB ixD (rd (eV 0)) (rd (eV 5)))) (aCons (fz (eV 5)) (aNil))))) [])) [] (tN 4)
  (sIf (sV (eB leD (rd (eB addD (rd (eV 3)) (rd (eB ixD (rd (eV 0)) (rd (eV 4)))))) (rd (eV 1)))) (sSeq (sAug 3 augAddD (rd (eB ixD (rd (eV 0)) (rd (eV 4)))))
  (sApp 2 (fz (eV 4)))) (sPass)) [4])
  (sRet (eTup (aCons (fz (eCall lenD (aCons (rd (eV 2)) (aNil)))) (aCons (fz (eCall tupleD (aCons (rd (eSortC false (iCo (rd (eV 2))))) (aNil)))) (aNil)))))))
def mf_most_flights : MF := mdef 6 [false, false] m_b_most_flights
theorem b_most_flights {P : Program} {w : World} {K : Fr} {mg : Str → Option Value} {base : Heap} (F : Fx K mg base) {f : Addr} {cd : Value} {A : Around} {outer : List Env} {s : Shared} {H : Hp} {E : XK} (hcd : cd = .ref (He.codeOf K ("most_flights", none))) (hr : Room 4 (A.deeper (envOfC "most_flights" (sc 6) s.heap.objs.size f cd))) :
    DB (cxD P w K mg base N_most_flights "most_flights" (sc 6) f cd A outer s H E) (WB E) (bd 6) m_b_most_flights := by
  have tk := takes_D (P := P) (w := w) (K := K) (mg := mg) (base := base) (N := N_most_flights) (qual := "most_flights") (scope := sc 6) (f := f) (cd := cd) (A := A) (outer := outer) (s := s) (H := H) (E := E)
  have hp := passes_D (P := P) (w := w) (K := K) (mg := mg) (base := base) (N := N_most_flights) (qual := "most_flights") (scope := sc 6) (f := f) (cd := cd) (A := A) (outer := outer) (s := s) (H := H) (E := E)
  exact (db_cons (ds_if (dt_w (dw_or (dt_not (dt_of (de_rd (de_isi (go_sc g_most_flights_isinstance) (m_isinstance F) (go_sc g_most_flights_tuple) (m_tuple F) PyProof.Rows.boot_tuple (de_rd (de_n v_most_flights_noises)))))) (dw_or (dt_not (dt_of (de_rd (de_allG (own := [("one", 5)]) 1 (go_sc g_most_flights_all) (m_all F) (hr.mono (by decide)) (tb_most_flights F) (ti_most_flights F) hcd (by kernel_rfl) nd_most_flights (di_seqA (de_n v_most_flights_noises)) (fun _ _ _ _ _ _ hr => ⟨(dg_n nd_most_flights (LO.of (by kernel_rfl))), dts_nil, (de_call (ms := [false, false]) (ms' := []) ((d_is_whole F).mono (by decide)) 1 hr takes_none5 (go_sc (by kernel_rfl)) (dam_b (de_rd (de_n (VO.of (by kernel_rfl)))) (dam_b (de_rd de_int) dam_nil)))⟩))))) (dw_or1 (dt_not (dt_of (de_rd (de_call (ms := [false, false]) (ms' := []) ((d_is_whole F).mono (by decide)) 1 hr tk (go_sc g_most_flights_is_whole) (dam_b (de_rd (de_n v_most_flights_bound)) (dam_b (de_rd de_int) dam_nil)))))))))) (db_one (ds_raise rfl tk (x_BadClaim F) (m_BadClaim F) (go_sc g_most_flights_BadClaim))) db_nil)
  (db_cons (ds_par2 nd_most_flights rfl s_most_flights_chosen s_most_flights_total (dpv_cons (de_lst daz_nil) (dpv_cons de_int dpv_nil)) rfl)
  (db_cons (ds_for hp rfl (di_seqA (de_sortK (k := 0) (a := "one") (j := 5) (go_sc g_most_flights_sorted) (m_sorted F) (hr.mono (by decide)) ⟨rfl, hr.mono (by decide), .of (by kernel_rfl), nd_most_flights, fun _ _ _ _ _ _ => by kernel_rfl, fun _ _ _ _ _ _ _ hr => (de_tup (daz_cons (de_fz (de_ix (de_rd (de_n (VO.of (by kernel_rfl)))) (de_rd (de_n (VO.of (by kernel_rfl)))))) (daz_cons (de_fz (de_n (VO.of (by kernel_rfl)))) daz_nil)))⟩ (tb_most_flights F) (ti_most_flights F) hcd rfl (dco_rg1 hr (go_sc g_most_flights_range) (m_range F) (de_rd (de_len (go_sc g_most_flights_len) (m_len F) (dar_cons (de_rd (de_n v_most_flights_noises)) dar_nil)))))) (dg_n nd_most_flights l_most_flights_k)
  (db_one (ds_if (dc_t (dc_le (de_rd (de_add (de_rd (de_n v_most_flights_total)) (de_rd (de_ix (de_rd (de_n v_most_flights_noises)) (de_rd (de_n v_most_flights_k)))))) (de_rd (de_n v_most_flights_bound)))) (db_cons (ds_augAdd nd_most_flights (de_rd (de_ix (de_rd (de_n v_most_flights_noises)) (de_rd (de_n v_most_flights_k)))) l_most_flights_total.n l_most_flights_total.l)
  (db_one (ds_app (de_fz (de_n v_most_flights_k)) v_most_flights_chosen.n v_most_flights_chosen.v v_most_flights_chosen.d v_most_flights_chosen.cd))) db_nil)))
  (db_one (ds_ret (de_tup (daz_cons (de_fz (de_len (go_sc g_most_flights_len) (m_len F) (dar_cons (de_rd (de_n v_most_flights_chosen)) dar_nil))) (daz_cons (de_fz (de_tuple1 (go_sc g_most_flights_tuple) (m_tuple F) (dar_cons (de_rd (de_sortC hr (ti_most_flights F) (go_sc g_most_flights_sorted) (m_sorted F) (dco_seq (de_rd (de_n v_most_flights_chosen))))) dar_nil))) daz_nil))))))))
theorem d_most_flights {P : Program} {w : World} {K : Fr} {mg : Str → Option Value} {base : Heap} (F : Fx K mg base) : DefOk P w K mg base 5 "most_flights" [false, false] dd_most_flights mf_most_flights := by
  obtain ⟨fd, G⟩ := F.c.def_ 1 (d := mk "most_flights" 6 []) rfl
  exact ⟨_, fd, ["noises", "bound"], rfl, fn_def (p := ("most_flights", none)) G rfl fs_most_flights rfl fun cd A outer s H E hcd hr => b_most_flights F hcd hr, m_most_flights F, G.kp, fun j hj => ⟨[], [], .nil, fun _ _ => by cases Nat.le_zero.mp hj; exact .nil, G.bindsN fun _ _ _ _ _ _ us hl => match us, hl with | [_, _], _ => rfl⟩⟩
abbrev N_best_worth : List Str := ["noises", "worths", "bound", "best", "mask", "some", "key", "k", "one"]
theorem fs_best_worth : FnScope N_best_worth ["noises", "worths", "bound"] (sc 7) := FnScope.ofB (by kernel_rfl)
theorem nd_best_worth : N_best_worth.Nodup := fs_best_worth.nd
theorem v_best_worth_noises : VO N_best_worth (sc 7) 0 "noises" := VO.of (by kernel_rfl)
theorem v_best_worth_worths : VO N_best_worth (sc 7) 1 "worths" := VO.of (by kernel_rfl)
theorem v_best_worth_bound : VO N_best_worth (sc 7) 2 "bound" := VO.of (by kernel_rfl)
theorem l_best_worth_best : LO N_best_worth (sc 7) 3 "best" := LO.of (by kernel_rfl)
theorem v_best_worth_best : VO N_best_worth (sc 7) 3 "best" := VO.of (by kernel_rfl)
theorem l_best_worth_mask : LO N_best_worth (sc 7) 4 "mask" := LO.of (by kernel_rfl)
theorem l_best_worth_some : LO N_best_worth (sc 7) 5 "some" := LO.of (by kernel_rfl)
theorem v_best_worth_some : VO N_best_worth (sc 7) 5 "some" := VO.of (by kernel_rfl)
theorem l_best_worth_key : LO N_best_worth (sc 7) 6 "key" := LO.of (by kernel_rfl)
theorem v_best_worth_key : VO N_best_worth (sc 7) 6 "key" := VO.of (by kernel_rfl)
theorem g_best_worth_BadClaim : goB (sc 7) "BadClaim" = true := by kernel_rfl
theorem g_best_worth_all : goB (sc 7) "all" = true := by kernel_rfl
theorem g_best_worth_is_whole : goB (sc 7) "is_whole" = true := by kernel_rfl
theorem g_best_worth_isinstance : goB (sc 7) "isinstance" = true := by kernel_rfl
theorem g_best_worth_len : goB (sc 7) "len" = true := by kernel_rfl
theorem g_best_worth_range : goB (sc 7) "range" = true := by kernel_rfl
theorem g_best_worth_sum : goB (sc 7) "sum" = true := by kernel_rfl
theorem g_best_worth_tuple : goB (sc 7) "tuple" = true := by kernel_rfl
theorem tb_best_worth {K : Fr} {mg : Str → Option Value} {base : Heap} (F : Fx K mg base) : GxR.TabB base mg (He.codeOf K ("best_worth", none)) (He.cT K ("best_worth", none)).2 := let z := F.tb ("best_worth", none) (List.mem_of_getElem? (i := 2) rfl); ⟨z.code, z.bm, z.gP⟩
theorem ti_best_worth {K : Fr} {mg : Str → Option Value} {base : Heap} (F : Fx K mg base) : (He.cT K ("best_worth", none)).2 ∈ TabsOf K := F.ti ("best_worth", none) (List.mem_of_getElem? (i := 2) rfl)
abbrev dd_best_worth : List PyData := []
def m_b_best_worth : SM :=
  sSeq (sIf (sOr (sNot (sT (rd (eU (isiD "tuple") (rd (eV 0)))))) (sOr (sV (eB gtD (rd (eCall lenD (aCons (rd (eV 0)) (aNil)))) (rd (eC (.int 12))))) (sOr (sNot (sT (rd (eU (isiD "tuple") (rd (eV 1)))))) (sV (eB neD (rd (eCall lenD (aCons (rd (eV 1)) (aNil)))) (rd (eCall lenD (aCons (rd (eV 0)) (aNil))))))))) (sRaise "BadClaim") (sPass))
  (sSeq (sIf (sOr (sNot (sT (rd (eGx true (iSeqA (lsFor (eB addD (rd (eV 0)) (rd (eV 1))) [])) [8] (tN 8) (sYes) (sV (eDef mf_is_whole (aCons (rd (eV 8)) (aCons (rd (eC (.int 0))) (aNil))) (dd_is_whole.drop 1))))))) (sNot (sT (rd (eDef mf_is_whole (aCons (rd (eV 2)) (aCons (rd (eC (.int 0))) (aNil))) (dd_is_whole.drop 1)))))) (sRaise "BadClaim") (sPass))
  (sSeq (sSet 3 (eC .none))
  (sSeq (sFor (iRg1 (rd (eB shlD (rd (eC (.int 1))) (rd (eCall lenD (aCons (rd (eV 0)) (aNil))))))) [] (tN 4)
  (sSeq (sSet 5 (eCall tupleD (aCons (rd (eLc (iRg1 (rd (eCall lenD (aCons (rd (eV 0)) (aNil))))) [7] (tN 7) (sT (rd (eB andD (rd (eB shrD (rd (eV 4)) (rd (eV 7)))) (rd (eC (.int 1)))))) (fz (eV 7)))) (aNil))))
  (sIf (sV (eB leD (rd (eCall sumAD (aCons (rd (eLc (iSeqA (lsFor (eV 5) [5])) [7] (tN 7) (sYes) (fz (eB ixD (rd (eV 0)) (rd (eV 7)))))) (aNil)))) (rd (eV 2)))) (sSeq (sSet 6 (eTup (aCons (fz (eU negD (rd (eCall sumAD (aCons (rd (eLc (iSeqA (lsFor (eV 5) [5])) [7] (tN 7) (sYes) (fz (eB ixD (rd (eV 1)) (rd (eV 7)))))) (aNil)))))) (aCons (fz (eCall lenD (aCons (rd (eV 5)) (aNil)))) (aCons (fz (eV 5)) (aNil))))))
  (sIf (sOr (sV (eB isD (rd (eV 3)) (rd (eC .none)))) (sV (eB ltXD (rd (eV 6)) (rd (eV 3))))) (sSet 3 (eV 6)) (sPass))) (sPass))) [4, 5])
  (sRet (eTup (aCons (fz (eU negD (rd (eB ixD (rd (eV 3)) (rd (eC (.int 0))))))) (aCons (fz (eB ixD (rd (eV 3)) (rd (eC (.int 2))))) (aNil))))))))
def mf_best_worth : MF := mdef 9 [false, false, false] m_b_best_worth
theorem b_best_worth {P : Program} {w : World} {K : Fr} {mg : Str → Option Value} {base : Heap} (F : Fx K mg base) {f : Addr} {cd : Value} {A : Around} {outer : List Env} {s : Shared} {H : Hp} {E : XK} (hcd : cd = .ref (He.codeOf K ("best_worth", none))) (hr : Room 4 (A.deeper (envOfC "best_worth" (sc 7) s.heap.objs.size f cd))) :
    DB (cxD P w K mg base N_best_worth "best_worth" (sc 7) f cd A outer s H E) (WB E) (bd 7) m_b_best_worth := by
  have tk := takes_D (P := P) (w := w) (K := K) (mg := mg) (base := base) (N := N_best_worth) (qual := "best_worth") (scope := sc 7) (f := f) (cd := cd) (A := A) (outer := outer) (s := s) (H := H) (E := E)
  have hp := passes_D (P := P) (w := w) (K := K) (mg := mg) (base := base) (N := N_best_worth) (qual := "best_worth") (scope := sc 7) (f := f) (cd := cd) (A := A) (outer := outer) (s := s) (H := H) (E := E)
  exact (db_cons (ds_if (dt_w (dw_or (dt_not (dt_of (de_rd (de_isi (go_sc g_best_worth_isinstance) (m_isinstance F) (go_sc g_best_worth_tuple) (m_tuple F) PyProof.Rows.boot_tuple (de_rd (de_n v_best_worth_noises)))))) (dw_or (dc_t (dc_gt (de_rd (de_len (go_sc g_best_worth_len) (m_len F) (dar_cons (de_rd (de_n v_best_worth_noises)) dar_nil))) (de_rd de_int))) (dw_or (dt_not (dt_of (de_rd (de_isi (go_sc g_best_worth_isinstance) (m_isinstance F) (go_sc g_best_worth_tuple) (m_tuple F) PyProof.Rows.boot_tuple (de_rd (de_n v_best_worth_worths)))))) (dw_or1 (dc_t (dc_ne hr (de_rd (de_len (go_sc g_best_worth_len) (m_len F) (dar_cons (de_rd (de_n v_best_worth_worths)) dar_nil))) (de_rd (de_len (go_sc g_best_worth_len) (m_len F) (dar_cons (de_rd (de_n v_best_worth_noises)) dar_nil)))))))))) (db_one (ds_raise rfl tk (x_BadClaim F) (m_BadClaim F) (go_sc g_best_worth_BadClaim))) db_nil)
  (db_cons (ds_if (dt_w (dw_or (dt_not (dt_of (de_rd (de_allG (own := [("one", 8)]) 1 (go_sc g_best_worth_all) (m_all F) (hr.mono (by decide)) (tb_best_worth F) (ti_best_worth F) hcd (by kernel_rfl) nd_best_worth (di_seqA (de_add (de_rd (de_n v_best_worth_noises)) (de_rd (de_n v_best_worth_worths)))) (fun _ _ _ _ _ _ hr => ⟨(dg_n nd_best_worth (LO.of (by kernel_rfl))), dts_nil, (de_call (ms := [false, false]) (ms' := []) ((d_is_whole F).mono (by decide)) 1 hr takes_none5 (go_sc (by kernel_rfl)) (dam_b (de_rd (de_n (VO.of (by kernel_rfl)))) (dam_b (de_rd de_int) dam_nil)))⟩))))) (dw_or1 (dt_not (dt_of (de_rd (de_call (ms := [false, false]) (ms' := []) ((d_is_whole F).mono (by decide)) 1 hr tk (go_sc g_best_worth_is_whole) (dam_b (de_rd (de_n v_best_worth_bound)) (dam_b (de_rd de_int) dam_nil))))))))) (db_one (ds_raise rfl tk (x_BadClaim F) (m_BadClaim F) (go_sc g_best_worth_BadClaim))) db_nil)
  (db_cons (ds_st nd_best_worth l_best_worth_best de_none)
  (db_cons (ds_for hp rfl (di_rg1 (go_sc g_best_worth_range) (m_range F) (de_rd (de_shl (de_rd de_int) (de_rd (de_len (go_sc g_best_worth_len) (m_len F) (dar_cons (de_rd (de_n v_best_worth_noises)) dar_nil)))))) (dg_n nd_best_worth l_best_worth_mask)
  (db_cons (ds_st nd_best_worth l_best_worth_some (de_tuple1 (go_sc g_best_worth_tuple) (m_tuple F) (dar_cons (de_rd (de_lc rfl nd_best_worth (own := [("k", 7)]) (di_rg1 (go_sc g_best_worth_range) (m_range F) (de_rd (de_len (go_sc g_best_worth_len) (m_len F) (dar_cons (de_rd (de_n v_best_worth_noises)) dar_nil)))) (by kernel_rfl) (fun _ _ _ _ _ => (dg_n nd_best_worth (LO.of (by kernel_rfl)))) (fun _ _ _ _ _ => (dts_one (dt_of (de_rd (de_and2 (de_rd (de_shr (de_rd (de_n (VO.of (by kernel_rfl)))) (de_rd (de_n (VO.of (by kernel_rfl)))))) (de_rd de_int)))))) (fun _ _ _ _ _ => (de_fz (de_n (VO.of (by kernel_rfl))))))) dar_nil)))
  (db_one (ds_if (dc_t (dc_le (de_rd (de_sumA rfl (go_sc g_best_worth_sum) (m_sum F) (dar_cons (de_rd (de_lc rfl nd_best_worth (own := [("k", 7)]) (di_seqA (de_n v_best_worth_some)) (by kernel_rfl) (fun _ _ _ _ _ => (dg_n nd_best_worth (LO.of (by kernel_rfl)))) (fun _ _ _ _ _ => dts_nil) (fun _ _ _ _ _ => (de_fz (de_ix (de_rd (de_n (VO.of (by kernel_rfl)))) (de_rd (de_n (VO.of (by kernel_rfl))))))))) dar_nil))) (de_rd (de_n v_best_worth_bound)))) (db_cons (ds_st nd_best_worth l_best_worth_key (de_tup (daz_cons (de_fz (de_neg (de_rd (de_sumA rfl (go_sc g_best_worth_sum) (m_sum F) (dar_cons (de_rd (de_lc rfl nd_best_worth (own := [("k", 7)]) (di_seqA (de_n v_best_worth_some)) (by kernel_rfl) (fun _ _ _ _ _ => (dg_n nd_best_worth (LO.of (by kernel_rfl)))) (fun _ _ _ _ _ => dts_nil) (fun _ _ _ _ _ => (de_fz (de_ix (de_rd (de_n (VO.of (by kernel_rfl)))) (de_rd (de_n (VO.of (by kernel_rfl))))))))) dar_nil))))) (daz_cons (de_fz (de_len (go_sc g_best_worth_len) (m_len F) (dar_cons (de_rd (de_n v_best_worth_some)) dar_nil))) (daz_cons (de_fz (de_n v_best_worth_some)) daz_nil)))))
  (db_one (ds_if (dt_w (dw_or (dc_t (dc_is (de_rd (de_n v_best_worth_best)) (de_rd de_none))) (dw_or1 (dc_t (dc_ltX hr (de_rd (de_n v_best_worth_key)) (de_rd (de_n v_best_worth_best))))))) (db_one (ds_st nd_best_worth l_best_worth_best (de_n v_best_worth_key))) db_nil))) db_nil))))
  (db_one (ds_ret (de_tup (daz_cons (de_fz (de_neg (de_rd (de_ix (de_rd (de_n v_best_worth_best)) (de_rd de_int))))) (daz_cons (de_fz (de_ix (de_rd (de_n v_best_worth_best)) (de_rd de_int))) daz_nil)))))))))
theorem d_best_worth {P : Program} {w : World} {K : Fr} {mg : Str → Option Value} {base : Heap} (F : Fx K mg base) : DefOk P w K mg base 5 "best_worth" [false, false, false] dd_best_worth mf_best_worth := by
  obtain ⟨fd, G⟩ := F.c.def_ 2 (d := mk "best_worth" 7 []) rfl
  exact ⟨_, fd, ["noises", "worths", "bound"], rfl, fn_def (p := ("best_worth", none)) G rfl fs_best_worth rfl fun cd A outer s H E hcd hr => b_best_worth F hcd hr, m_best_worth F, G.kp, fun j hj => ⟨[], [], .nil, fun _ _ => by cases Nat.le_zero.mp hj; exact .nil, G.bindsN fun _ _ _ _ _ _ us hl => match us, hl with | [_, _, _], _ => rfl⟩⟩
abbrev N_by_ratio : List Str := ["rows", "found", "worth", "noise", "at"]
theorem fs_by_ratio : FnScope N_by_ratio ["rows"] (sc 9) := FnScope.ofB (by kernel_rfl)
theorem nd_by_ratio : N_by_ratio.Nodup := fs_by_ratio.nd
theorem v_by_ratio_rows : VO N_by_ratio (sc 9) 0 "rows" := VO.of (by kernel_rfl)
theorem l_by_ratio_found : LO N_by_ratio (sc 9) 1 "found" := LO.of (by kernel_rfl)
theorem v_by_ratio_found : VO N_by_ratio (sc 9) 1 "found" := VO.of (by kernel_rfl)
theorem l_by_ratio_worth : LO N_by_ratio (sc 9) 2 "worth" := LO.of (by kernel_rfl)
theorem v_by_ratio_worth : VO N_by_ratio (sc 9) 2 "worth" := VO.of (by kernel_rfl)
theorem l_by_ratio_noise : LO N_by_ratio (sc 9) 3 "noise" := LO.of (by kernel_rfl)
theorem v_by_ratio_noise : VO N_by_ratio (sc 9) 3 "noise" := VO.of (by kernel_rfl)
theorem l_by_ratio_at : LO N_by_ratio (sc 9) 4 "at" := LO.of (by kernel_rfl)
theorem v_by_ratio_at : VO N_by_ratio (sc 9) 4 "at" := VO.of (by kernel_rfl)
theorem g_by_ratio_len : goB (sc 9) "len" = true := by kernel_rfl
abbrev dd_by_ratio : List PyData := []
def m_b_by_ratio : SM :=
  sSeq (sSet 1 (eLst (aNil)))
  (sSeq (sFor (iSeqA (lsFor (eV 0) [0])) [0] (tTup 2 (tCons (tN 2) (tCons (tN 3) (tNil))))
  (sSeq (sSet 4 (eC (.int 0)))
  (sSeq (sWhile 1000000 (sAnd (sV (eB ltD (rd (eV 4)) (rd (eCall lenD (aCons (rd (eV 1)) (aNil)))))) (sV (eB leD (rd (eB mulD (rd (eV 2)) (rd (eB ixD (rd (eB ixD (rd (eV 1)) (rd (eV 4)))) (rd (eC (.int 1))))))) (rd (eB mulD (rd (eB ixD (rd (eB ixD (rd (eV 1)) (rd (eV 4)))) (rd (eC (.int 0))))) (rd (eV 3)))))))
  (sAug 4 augAddD (rd (eC (.int 1)))) [])
  (sIns 1 (rd (eV 4)) (fz (eTup (aCons (fz (eV 2)) (aCons (fz (eV 3)) (aNil)))))))) [2, 3, 4])
  (sRet (eV 1)))
def mf_by_ratio : MF := mdef 5 [false] m_b_by_ratio
theorem b_by_ratio {P : Program} {w : World} {K : Fr} {mg : Str → Option Value} {base : Heap} (F : Fx K mg base) {f : Addr} {cd : Value} {A : Around} {outer : List Env} {s : Shared} {H : Hp} {E : XK} (hcd : cd = .ref (He.codeOf K ("by_ratio", none))) (hr : Room 0 (A.deeper (envOfC "by_ratio" (sc 9) s.heap.objs.size f cd))) :
    DB (cxD P w K mg base N_by_ratio "by_ratio" (sc 9) f cd A outer s H E) (WB E) (bd 9) m_b_by_ratio := by
  have tk := takes_D (P := P) (w := w) (K := K) (mg := mg) (base := base) (N := N_by_ratio) (qual := "by_ratio") (scope := sc 9) (f := f) (cd := cd) (A := A) (outer := outer) (s := s) (H := H) (E := E)
  have hp := passes_D (P := P) (w := w) (K := K) (mg := mg) (base := base) (N := N_by_ratio) (qual := "by_ratio") (scope := sc 9) (f := f) (cd := cd) (A := A) (outer := outer) (s := s) (H := H) (E := E)
  exact (db_cons (ds_st nd_by_ratio l_by_ratio_found (de_lst daz_nil))
  (db_cons (ds_for hp rfl (di_seqA (de_n v_by_ratio_rows)) (dg_tup rfl (dgs_cons (dg_n nd_by_ratio l_by_ratio_worth) (dgs_cons (dg_n nd_by_ratio l_by_ratio_noise) dgs_nil)))
  (db_cons (ds_st nd_by_ratio l_by_ratio_at de_int)
  (db_cons (ds_while hp (dt_w (dw_and (dc_t (dc_lt (de_rd (de_n v_by_ratio_at)) (de_rd (de_len (go_sc g_by_ratio_len) (m_len F) (dar_cons (de_rd (de_n v_by_ratio_found)) dar_nil))))) (dw_and1 (dc_t (dc_le (de_rd (de_mul (de_rd (de_n v_by_ratio_worth)) (de_rd (de_ix (de_rd (de_ix (de_rd (de_n v_by_ratio_found)) (de_rd (de_n v_by_ratio_at)))) (de_rd de_int))))) (de_rd (de_mul (de_rd (de_ix (de_rd (de_ix (de_rd (de_n v_by_ratio_found)) (de_rd (de_n v_by_ratio_at)))) (de_rd de_int))) (de_rd (de_n v_by_ratio_noise)))))))))
  (db_one (ds_augAdd nd_by_ratio (de_rd de_int) l_by_ratio_at.n l_by_ratio_at.l)))
  (db_one (ds_ins (de_rd (de_n v_by_ratio_at)) (de_fz (de_tup (daz_cons (de_fz (de_n v_by_ratio_worth)) (daz_cons (de_fz (de_n v_by_ratio_noise)) daz_nil)))) v_by_ratio_found.n v_by_ratio_found.v v_by_ratio_found.d v_by_ratio_found.cd)))))
  (db_one (ds_ret (de_n v_by_ratio_found)))))
theorem d_by_ratio {P : Program} {w : World} {K : Fr} {mg : Str → Option Value} {base : Heap} (F : Fx K mg base) : DefOk P w K mg base 1 "by_ratio" [false] dd_by_ratio mf_by_ratio := by
  obtain ⟨fd, G⟩ := F.c.def_ 4 (d := mk "by_ratio" 9 []) rfl
  exact ⟨_, fd, ["rows"], rfl, fn_def (p := ("by_ratio", none)) G rfl fs_by_ratio rfl fun cd A outer s H E hcd hr => b_by_ratio F hcd hr, m_by_ratio F, G.kp, fun j hj => ⟨[], [], .nil, fun _ _ => by cases Nat.le_zero.mp hj; exact .nil, G.bindsN fun _ _ _ _ _ _ us hl => match us, hl with | [_], _ => rfl⟩⟩
abbrev N_part_bound : List Str := ["noises", "worths", "bound", "rows", "top", "bottom", "left", "worth", "noise", "one", "two"]
theorem fs_part_bound : FnScope N_part_bound ["noises", "worths", "bound"] (sc 8) := FnScope.ofB (by kernel_rfl)
theorem nd_part_bound : N_part_bound.Nodup := fs_part_bound.nd
theorem v_part_bound_noises : VO N_part_bound (sc 8) 0 "noises" := VO.of (by kernel_rfl)
theorem v_part_bound_worths : VO N_part_bound (sc 8) 1 "worths" := VO.of (by kernel_rfl)
theorem v_part_bound_bound : VO N_part_bound (sc 8) 2 "bound" := VO.of (by kernel_rfl)
theorem l_part_bound_rows : LO N_part_bound (sc 8) 3 "rows" := LO.of (by kernel_rfl)
theorem v_part_bound_rows : VO N_part_bound (sc 8) 3 "rows" := VO.of (by kernel_rfl)
theorem l_part_bound_top : LO N_part_bound (sc 8) 4 "top" := LO.of (by kernel_rfl)
theorem s_part_bound_top : SO N_part_bound (sc 8) 4 "top" := SO.of (by kernel_rfl)
theorem v_part_bound_top : VO N_part_bound (sc 8) 4 "top" := VO.of (by kernel_rfl)
theorem s_part_bound_bottom : SO N_part_bound (sc 8) 5 "bottom" := SO.of (by kernel_rfl)
theorem v_part_bound_bottom : VO N_part_bound (sc 8) 5 "bottom" := VO.of (by kernel_rfl)
theorem l_part_bound_left : LO N_part_bound (sc 8) 6 "left" := LO.of (by kernel_rfl)
theorem s_part_bound_left : SO N_part_bound (sc 8) 6 "left" := SO.of (by kernel_rfl)
theorem v_part_bound_left : VO N_part_bound (sc 8) 6 "left" := VO.of (by kernel_rfl)
theorem l_part_bound_worth : LO N_part_bound (sc 8) 7 "worth" := LO.of (by kernel_rfl)
theorem v_part_bound_worth : VO N_part_bound (sc 8) 7 "worth" := VO.of (by kernel_rfl)
theorem l_part_bound_noise : LO N_part_bound (sc 8) 8 "noise" := LO.of (by kernel_rfl)
theorem v_part_bound_noise : VO N_part_bound (sc 8) 8 "noise" := VO.of (by kernel_rfl)
theorem s_part_bound_one : SO N_part_bound (sc 8) 9 "one" := SO.of (by kernel_rfl)
theorem v_part_bound_one : VO N_part_bound (sc 8) 9 "one" := VO.of (by kernel_rfl)
theorem s_part_bound_two : SO N_part_bound (sc 8) 10 "two" := SO.of (by kernel_rfl)
theorem v_part_bound_two : VO N_part_bound (sc 8) 10 "two" := VO.of (by kernel_rfl)
theorem g_part_bound_by_ratio : goB (sc 8) "by_ratio" = true := by kernel_rfl
theorem g_part_bound_list : goB (sc 8) "list" = true := by kernel_rfl
theorem g_part_bound_max : goB (sc 8) "max" = true := by kernel_rfl
theorem g_part_bound_zip : goB (sc 8) "zip" = true := by kernel_rfl
abbrev dd_part_bound : List PyData := []
def m_b_part_bound : SM :=
  sSeq (sSet 3 (eDef mf_by_ratio (aCons (rd (eB zipL (rd (eV 1)) (rd (eV 0)))) (aNil)) (dd_by_ratio.drop 0)))
  (sSeq (sPar [4, 5, 6] (pCons (eC (.int 0)) (pCons (eC (.int 1)) (pCons (eV 2) (pNil)))))
  (sSeq (sFor (iSeqA (lsFor (eV 3) [3])) [3] (tTup 2 (tCons (tN 7) (tCons (tN 8) (tNil))))
  (sIf (sV (eB leD (rd (eV 8)) (rd (eV 6)))) (sSeq (sAug 4 augAddD (rd (eB mulD (rd (eV 7)) (rd (eV 5)))))
  (sAug 6 subD (rd (eV 8)))) (sIf (sV (eB gtD (rd (eV 6)) (rd (eC (.int 0))))) (sSeq (sPar [4, 5] (pCons (eB addD (rd (eB mulD (rd (eV 4)) (rd (eV 8)))) (rd (eB mulD (rd (eB mulD (rd (eV 7)) (rd (eV 6)))) (rd (eV 5))))) (pCons (eB mulD (rd (eV 5)) (rd (eV 8))) (pNil))))
  (sSet 6 (eC (.int 0)))) (sPass))) [7, 8])
  (sSeq (sPar [9, 10] (pCons (eV 4) (pCons (eV 5) (pNil))))
  (sSeq (sWhile 1000000 (sV (eB gtD (rd (eV 10)) (rd (eC (.int 0)))))
  (sPar [9, 10] (pCons (eV 10) (pCons (eB modD (rd (eV 9)) (rd (eV 10))) (pNil)))) [])
  (sRet (eTup (aCons (fz (eB divD (rd (eV 4)) (rd (eCall max2D (aCons (rd (eC (.int 1))) (aCons (rd (eV 9)) (aNil))))))) (aCons (fz (eB divD (rd (eV 5)) (rd (eCall max2D (aCons (rd (eC (.int 1))) (aCons (rd (eV 9)) (aNil))))))) (aNil)))))))))
def mf_part_bound : MF := mdef 11 [false, false, true] m_b_part_bound
theorem b_part_bound {P : Program} {w : World} {K : Fr} {mg : Str → Option Value} {base : Heap} (F : Fx K mg base) {f : Addr} {cd : Value} {A : Around} {outer : List Env} {s : Shared} {H : Hp} {E : XK} (hcd : cd = .ref (He.codeOf K ("part_bound", none))) (hr : Room 1 (A.deeper (envOfC "part_bound" (sc 8) s.heap.objs.size f cd))) :
    DB (cxD P w K mg base N_part_bound "part_bound" (sc 8) f cd A outer s H E) (WB E) (bd 8) m_b_part_bound := by
  have tk := takes_D (P := P) (w := w) (K := K) (mg := mg) (base := base) (N := N_part_bound) (qual := "part_bound") (scope := sc 8) (f := f) (cd := cd) (A := A) (outer := outer) (s := s) (H := H) (E := E)
  have hp := passes_D (P := P) (w := w) (K := K) (mg := mg) (base := base) (N := N_part_bound) (qual := "part_bound") (scope := sc 8) (f := f) (cd := cd) (A := A) (outer := outer) (s := s) (H := H) (E := E)
  exact (db_cons (ds_st nd_part_bound l_part_bound_rows (de_call (ms := [false]) (ms' := []) ((d_by_ratio F).mono (by decide)) 0 hr tk (go_sc g_part_bound_by_ratio) (dam_b (de_rd (de_listZip rfl (go_sc g_part_bound_list) (m_list F) (go_sc g_part_bound_zip) (m_zip F) (de_rd (de_n v_part_bound_worths)) (de_rd (de_n v_part_bound_noises)))) dam_nil)))
  (db_cons (ds_par3 nd_part_bound rfl s_part_bound_top s_part_bound_bottom s_part_bound_left (dpv_cons de_int (dpv_cons de_int (dpv_cons (de_n v_part_bound_bound) dpv_nil))) rfl)
  (db_cons (ds_for hp rfl (di_seqA (de_n v_part_bound_rows)) (dg_tup rfl (dgs_cons (dg_n nd_part_bound l_part_bound_worth) (dgs_cons (dg_n nd_part_bound l_part_bound_noise) dgs_nil)))
  (db_one (ds_if (dc_t (dc_le (de_rd (de_n v_part_bound_noise)) (de_rd (de_n v_part_bound_left)))) (db_cons (ds_augAdd nd_part_bound (de_rd (de_mul (de_rd (de_n v_part_bound_worth)) (de_rd (de_n v_part_bound_bottom)))) l_part_bound_top.n l_part_bound_top.l)
  (db_one (ds_augSub nd_part_bound (de_rd (de_n v_part_bound_noise)) l_part_bound_left.n l_part_bound_left.l))) (db_one (ds_if (dc_t (dc_gt (de_rd (de_n v_part_bound_left)) (de_rd de_int))) (db_cons (ds_par2 nd_part_bound rfl s_part_bound_top s_part_bound_bottom (dpv_cons (de_add (de_rd (de_mul (de_rd (de_n v_part_bound_top)) (de_rd (de_n v_part_bound_noise)))) (de_rd (de_mul (de_rd (de_mul (de_rd (de_n v_part_bound_worth)) (de_rd (de_n v_part_bound_left)))) (de_rd (de_n v_part_bound_bottom))))) (dpv_cons (de_mul (de_rd (de_n v_part_bound_bottom)) (de_rd (de_n v_part_bound_noise))) dpv_nil)) rfl)
  (db_one (ds_st nd_part_bound l_part_bound_left de_int))) db_nil)))))
  (db_cons (ds_par2 nd_part_bound rfl s_part_bound_one s_part_bound_two (dpv_cons (de_n v_part_bound_top) (dpv_cons (de_n v_part_bound_bottom) dpv_nil)) rfl)
  (db_cons (ds_while hp (dc_t (dc_gt (de_rd (de_n v_part_bound_two)) (de_rd de_int)))
  (db_one (ds_par2 nd_part_bound rfl s_part_bound_one s_part_bound_two (dpv_cons (de_n v_part_bound_two) (dpv_cons (de_mod (de_rd (de_n v_part_bound_one)) (de_rd (de_n v_part_bound_two))) dpv_nil)) rfl)))
  (db_one (ds_ret (de_tup (daz_cons (de_fz (de_div (de_rd (de_n v_part_bound_top)) (de_rd (de_max2 rfl (go_sc g_part_bound_max) (m_max F) (dar_cons (de_rd de_int) (dar_cons (de_rd (de_n v_part_bound_one)) dar_nil)))))) (daz_cons (de_fz (de_div (de_rd (de_n v_part_bound_bottom)) (de_rd (de_max2 rfl (go_sc g_part_bound_max) (m_max F) (dar_cons (de_rd de_int) (dar_cons (de_rd (de_n v_part_bound_one)) dar_nil)))))) daz_nil))))))))))
theorem d_part_bound {P : Program} {w : World} {K : Fr} {mg : Str → Option Value} {base : Heap} (F : Fx K mg base) : DefOk P w K mg base 2 "part_bound" [false, false, true] dd_part_bound mf_part_bound := by
  obtain ⟨fd, G⟩ := F.c.def_ 3 (d := mk "part_bound" 8 []) rfl
  exact ⟨_, fd, ["noises", "worths", "bound"], rfl, fn_def (p := ("part_bound", none)) G rfl fs_part_bound rfl fun cd A outer s H E hcd hr => b_part_bound F hcd hr, m_part_bound F, G.kp, fun j hj => ⟨[], [], .nil, fun _ _ => by cases Nat.le_zero.mp hj; exact .nil, G.bindsN fun _ _ _ _ _ _ us hl => match us, hl with | [_, _, _], _ => rfl⟩⟩
abbrev N__law_low : List Str := ["top", "bottom", "one", "two"]
theorem fs__law_low : FnScope N__law_low ["top", "bottom"] (sc 13) := FnScope.ofB (by kernel_rfl)
theorem nd__law_low : N__law_low.Nodup := fs__law_low.nd
theorem v__law_low_top : VO N__law_low (sc 13) 0 "top" := VO.of (by kernel_rfl)
theorem v__law_low_bottom : VO N__law_low (sc 13) 1 "bottom" := VO.of (by kernel_rfl)
theorem s__law_low_one : SO N__law_low (sc 13) 2 "one" := SO.of (by kernel_rfl)
theorem v__law_low_one : VO N__law_low (sc 13) 2 "one" := VO.of (by kernel_rfl)
theorem s__law_low_two : SO N__law_low (sc 13) 3 "two" := SO.of (by kernel_rfl)
theorem v__law_low_two : VO N__law_low (sc 13) 3 "two" := VO.of (by kernel_rfl)
theorem g__law_low_abs : goB (sc 13) "abs" = true := by kernel_rfl
abbrev dd__law_low : List PyData := []
def m_b__law_low : SM :=
  sSeq (sPar [2, 3] (pCons (eCall absD (aCons (rd (eV 0)) (aNil))) (pCons (eV 1) (pNil))))
  (sSeq (sWhile 1000000 (sV (eB gtD (rd (eV 3)) (rd (eC (.int 0)))))
  (sPar [2, 3] (pCons (eV 3) (pCons (eB modD (rd (eV 2)) (rd (eV 3))) (pNil)))) [])
  (sRet (eTup (aCons (fz (eB divD (rd (eV 0)) (rd (eV 2)))) (aCons (fz (eB divD (rd (eV 1)) (rd (eV 2)))) (aNil))))))
def mf__law_low : MF := mdef 4 [false, true] m_b__law_low
theorem b__law_low {P : Program} {w : World} {K : Fr} {mg : Str → Option Value} {base : Heap} (F : Fx K mg base) {f : Addr} {cd : Value} {A : Around} {outer : List Env} {s : Shared} {H : Hp} {E : XK} (hcd : cd = .ref (He.codeOf K ("_law_low", none))) (hr : Room 0 (A.deeper (envOfC "_law_low" (sc 13) s.heap.objs.size f cd))) :
    DB (cxD P w K mg base N__law_low "_law_low" (sc 13) f cd A outer s H E) (WB E) (bd 13) m_b__law_low := by
  have tk := takes_D (P := P) (w := w) (K := K) (mg := mg) (base := base) (N := N__law_low) (qual := "_law_low") (scope := sc 13) (f := f) (cd := cd) (A := A) (outer := outer) (s := s) (H := H) (E := E)
  have hp := passes_D (P := P) (w := w) (K := K) (mg := mg) (base := base) (N := N__law_low) (qual := "_law_low") (scope := sc 13) (f := f) (cd := cd) (A := A) (outer := outer) (s := s) (H := H) (E := E)
  exact (db_cons (ds_par2 nd__law_low rfl s__law_low_one s__law_low_two (dpv_cons (de_abs (go_sc g__law_low_abs) (m_abs F) (dar_cons (de_rd (de_n v__law_low_top)) dar_nil)) (dpv_cons (de_n v__law_low_bottom) dpv_nil)) rfl)
  (db_cons (ds_while hp (dc_t (dc_gt (de_rd (de_n v__law_low_two)) (de_rd de_int)))
  (db_one (ds_par2 nd__law_low rfl s__law_low_one s__law_low_two (dpv_cons (de_n v__law_low_two) (dpv_cons (de_mod (de_rd (de_n v__law_low_one)) (de_rd (de_n v__law_low_two))) dpv_nil)) rfl)))
  (db_one (ds_ret (de_tup (daz_cons (de_fz (de_div (de_rd (de_n v__law_low_top)) (de_rd (de_n v__law_low_one)))) (daz_cons (de_fz (de_div (de_rd (de_n v__law_low_bottom)) (de_rd (de_n v__law_low_one)))) daz_nil)))))))
theorem d__law_low {P : Program} {w : World} {K : Fr} {mg : Str → Option Value} {base : Heap} (F : Fx K mg base) : DefOk P w K mg base 1 "_law_low" [false, true] dd__law_low mf__law_low := by
  obtain ⟨fd, G⟩ := F.c.def_ 7 (d := mk "_law_low" 13 []) rfl
  exact ⟨_, fd, ["top", "bottom"], rfl, fn_def (p := ("_law_low", none)) G rfl fs__law_low rfl fun cd A outer s H E hcd hr => b__law_low F hcd hr, m__law_low F, G.kp, fun j hj => ⟨[], [], .nil, fun _ _ => by cases Nat.le_zero.mp hj; exact .nil, G.bindsN fun _ _ _ _ _ _ us hl => match us, hl with | [_, _], _ => rfl⟩⟩
abbrev N__law_refuses : List Str := ["noises", "worths", "bound"]
theorem fs__law_refuses : FnScope N__law_refuses ["noises", "worths", "bound"] (sc 14) := FnScope.ofB (by kernel_rfl)
theorem nd__law_refuses : N__law_refuses.Nodup := fs__law_refuses.nd
theorem v__law_refuses_noises : VO N__law_refuses (sc 14) 0 "noises" := VO.of (by kernel_rfl)
theorem v__law_refuses_worths : VO N__law_refuses (sc 14) 1 "worths" := VO.of (by kernel_rfl)
theorem v__law_refuses_bound : VO N__law_refuses (sc 14) 2 "bound" := VO.of (by kernel_rfl)
theorem g__law_refuses_BadClaim : goB (sc 14) "BadClaim" = true := by kernel_rfl
theorem g__law_refuses_best_worth : goB (sc 14) "best_worth" = true := by kernel_rfl
abbrev dd__law_refuses : List PyData := []
def m_b__law_refuses : SM :=
  sSeq (sTry cat_BadClaim (sDrop (eDef mf_best_worth (aCons (rd (eV 0)) (aCons (rd (eV 1)) (aCons (rd (eV 2)) (aNil)))) (dd_best_worth.drop 0)))
  (sRet (eC (.bool true))))
  (sRet (eC (.bool false)))
def mf__law_refuses : MF := mdef 3 [false, false, false] m_b__law_refuses
theorem b__law_refuses {P : Program} {w : World} {K : Fr} {mg : Str → Option Value} {base : Heap} (F : Fx K mg base) {f : Addr} {cd : Value} {A : Around} {outer : List Env} {s : Shared} {H : Hp} {E : XK} (hcd : cd = .ref (He.codeOf K ("_law_refuses", none))) (hr : Room 5 (A.deeper (envOfC "_law_refuses" (sc 14) s.heap.objs.size f cd))) :
    DB (cxD P w K mg base N__law_refuses "_law_refuses" (sc 14) f cd A outer s H E) (WB E) (bd 14) m_b__law_refuses := by
  have tk := takes_D (P := P) (w := w) (K := K) (mg := mg) (base := base) (N := N__law_refuses) (qual := "_law_refuses") (scope := sc 14) (f := f) (cd := cd) (A := A) (outer := outer) (s := s) (H := H) (E := E)
  have hp := passes_D (P := P) (w := w) (K := K) (mg := mg) (base := base) (N := N__law_refuses) (qual := "_law_refuses") (scope := sc 14) (f := f) (cd := cd) (A := A) (outer := outer) (s := s) (H := H) (E := E)
  exact (db_cons (ds_try rfl rfl ⟨(go_sc g__law_refuses_BadClaim), rfl, .inl (m_BadClaim F)⟩ tk (hct_BadClaim F) (fun W pn xe tk hp => (db_one (ds_expr (de_call (ms := [false, false, false]) (ms' := []) ((d_best_worth F).mono (by decide)) 0 hr tk (go_sc g__law_refuses_best_worth) (dam_b (de_rd (de_n v__law_refuses_noises)) (dam_b (de_rd (de_n v__law_refuses_worths)) (dam_b (de_rd (de_n v__law_refuses_bound)) dam_nil)))))))
  (fun a oe cls d pn _ _ => (db_one (ds_ret de_bool))))
  (db_one (ds_ret de_bool)))
theorem d__law_refuses {P : Program} {w : World} {K : Fr} {mg : Str → Option Value} {base : Heap} (F : Fx K mg base) : DefOk P w K mg base 6 "_law_refuses" [false, false, false] dd__law_refuses mf__law_refuses := by
  obtain ⟨fd, G⟩ := F.c.def_ 8 (d := mk "_law_refuses" 14 []) rfl
  exact ⟨_, fd, ["noises", "worths", "bound"], rfl, fn_def (p := ("_law_refuses", none)) G rfl fs__law_refuses rfl fun cd A outer s H E hcd hr => b__law_refuses F hcd hr, m__law_refuses F, G.kp, fun j hj => ⟨[], [], .nil, fun _ _ => by cases Nat.le_zero.mp hj; exact .nil, G.bindsN fun _ _ _ _ _ _ us hl => match us, hl with | [_, _, _], _ => rfl⟩⟩
abbrev N_law : List Str := ["script", "n", "many", "noises", "worths", "bound", "sets", "good", "top", "count", "chosen", "order", "keys", "best", "told", "free", "rest", "value", "left", "turn", "k", "j", "part", "code", "some", "pair"]
theorem fs_law : FnScope N_law ["script"] (sc 15) := FnScope.ofB (by kernel_rfl)
theorem nd_law : N_law.Nodup := fs_law.nd
theorem v_law_script : VO N_law (sc 15) 0 "script" := VO.of (by kernel_rfl)
theorem l_law_n : LO N_law (sc 15) 1 "n" := LO.of (by kernel_rfl)
theorem v_law_n : VO N_law (sc 15) 1 "n" := VO.of (by kernel_rfl)
theorem l_law_many : LO N_law (sc 15) 2 "many" := LO.of (by kernel_rfl)
theorem v_law_many : VO N_law (sc 15) 2 "many" := VO.of (by kernel_rfl)
theorem l_law_noises : LO N_law (sc 15) 3 "noises" := LO.of (by kernel_rfl)
theorem v_law_noises : VO N_law (sc 15) 3 "noises" := VO.of (by kernel_rfl)
theorem l_law_worths : LO N_law (sc 15) 4 "worths" := LO.of (by kernel_rfl)
theorem v_law_worths : VO N_law (sc 15) 4 "worths" := VO.of (by kernel_rfl)
theorem l_law_bound : LO N_law (sc 15) 5 "bound" := LO.of (by kernel_rfl)
theorem v_law_bound : VO N_law (sc 15) 5 "bound" := VO.of (by kernel_rfl)
theorem s_law_sets : SO N_law (sc 15) 6 "sets" := SO.of (by kernel_rfl)
theorem v_law_sets : VO N_law (sc 15) 6 "sets" := VO.of (by kernel_rfl)
theorem s_law_good : SO N_law (sc 15) 7 "good" := SO.of (by kernel_rfl)
theorem v_law_good : VO N_law (sc 15) 7 "good" := VO.of (by kernel_rfl)
theorem l_law_top : LO N_law (sc 15) 8 "top" := LO.of (by kernel_rfl)
theorem v_law_top : VO N_law (sc 15) 8 "top" := VO.of (by kernel_rfl)
theorem l_law_count : LO N_law (sc 15) 9 "count" := LO.of (by kernel_rfl)
theorem v_law_count : VO N_law (sc 15) 9 "count" := VO.of (by kernel_rfl)
theorem l_law_chosen : LO N_law (sc 15) 10 "chosen" := LO.of (by kernel_rfl)
theorem v_law_chosen : VO N_law (sc 15) 10 "chosen" := VO.of (by kernel_rfl)
theorem s_law_order : SO N_law (sc 15) 11 "order" := SO.of (by kernel_rfl)
theorem v_law_order : VO N_law (sc 15) 11 "order" := VO.of (by kernel_rfl)
theorem s_law_keys : SO N_law (sc 15) 12 "keys" := SO.of (by kernel_rfl)
theorem v_law_keys : VO N_law (sc 15) 12 "keys" := VO.of (by kernel_rfl)
theorem l_law_best : LO N_law (sc 15) 13 "best" := LO.of (by kernel_rfl)
theorem v_law_best : VO N_law (sc 15) 13 "best" := VO.of (by kernel_rfl)
theorem l_law_told : LO N_law (sc 15) 14 "told" := LO.of (by kernel_rfl)
theorem v_law_told : VO N_law (sc 15) 14 "told" := VO.of (by kernel_rfl)
theorem s_law_free : SO N_law (sc 15) 15 "free" := SO.of (by kernel_rfl)
theorem v_law_free : VO N_law (sc 15) 15 "free" := VO.of (by kernel_rfl)
theorem s_law_rest : SO N_law (sc 15) 16 "rest" := SO.of (by kernel_rfl)
theorem v_law_rest : VO N_law (sc 15) 16 "rest" := VO.of (by kernel_rfl)
theorem l_law_value : LO N_law (sc 15) 17 "value" := LO.of (by kernel_rfl)
theorem s_law_value : SO N_law (sc 15) 17 "value" := SO.of (by kernel_rfl)
theorem v_law_value : VO N_law (sc 15) 17 "value" := VO.of (by kernel_rfl)
theorem l_law_left : LO N_law (sc 15) 18 "left" := LO.of (by kernel_rfl)
theorem s_law_left : SO N_law (sc 15) 18 "left" := SO.of (by kernel_rfl)
theorem v_law_left : VO N_law (sc 15) 18 "left" := VO.of (by kernel_rfl)
theorem l_law_turn : LO N_law (sc 15) 19 "turn" := LO.of (by kernel_rfl)
theorem l_law_k : LO N_law (sc 15) 20 "k" := LO.of (by kernel_rfl)
theorem v_law_k : VO N_law (sc 15) 20 "k" := VO.of (by kernel_rfl)
theorem l_law_j : LO N_law (sc 15) 21 "j" := LO.of (by kernel_rfl)
theorem v_law_j : VO N_law (sc 15) 21 "j" := VO.of (by kernel_rfl)
theorem l_law_part : LO N_law (sc 15) 22 "part" := LO.of (by kernel_rfl)
theorem v_law_part : VO N_law (sc 15) 22 "part" := VO.of (by kernel_rfl)
theorem g_law__law_cell : goB (sc 15) "_law_cell" = true := by kernel_rfl
theorem g_law__law_draws : goB (sc 15) "_law_draws" = true := by kernel_rfl
theorem g_law__law_low : goB (sc 15) "_law_low" = true := by kernel_rfl
theorem g_law__law_refuses : goB (sc 15) "_law_refuses" = true := by kernel_rfl
theorem g_law_best_worth : goB (sc 15) "best_worth" = true := by kernel_rfl
theorem g_law_len : goB (sc 15) "len" = true := by kernel_rfl
theorem g_law_max : goB (sc 15) "max" = true := by kernel_rfl
theorem g_law_min : goB (sc 15) "min" = true := by kernel_rfl
theorem g_law_most_flights : goB (sc 15) "most_flights" = true := by kernel_rfl
theorem g_law_part_bound : goB (sc 15) "part_bound" = true := by kernel_rfl
theorem g_law_range : goB (sc 15) "range" = true := by kernel_rfl
theorem g_law_sorted : goB (sc 15) "sorted" = true := by kernel_rfl
theorem g_law_sum : goB (sc 15) "sum" = true := by kernel_rfl
theorem g_law_tuple : goB (sc 15) "tuple" = true := by kernel_rfl
theorem tb_law {K : Fr} {mg : Str → Option Value} {base : Heap} (F : Fx K mg base) : GxR.TabB base mg (He.codeOf K ("law", none)) (He.cT K ("law", none)).2 := let z := F.tb ("law", none) (List.mem_of_getElem? (i := 9) rfl); ⟨z.code, z.bm, z.gP⟩
theorem ti_law {K : Fr} {mg : Str → Option Value} {base : Heap} (F : Fx K mg base) : (He.cT K ("law", none)).2 ∈ TabsOf K := F.ti ("law", none) (List.mem_of_getElem? (i := 9) rfl)
def m_b_law : SM :=
  sSeq (sSet 2 (eB modD (rd (eB ixD (rd (eV 1)) (rd (eC (.int 0))))) (rd (eC (.int 8)))))
  (sSeq (sAsg (tTup 2 (tCons (tN 3) (tCons (tN 4) (tNil)))) (eTup (aCons (fz (eCall tupleD (aCons (rd (eLc (iRg1 (rd (eV 2))) [20] (tN 20) (sYes) (fz (eB modD (rd (eB ixD (rd (eV 1)) (rd (eB addD (rd (eC (.int 1))) (rd (eV 20)))))) (rd (eC (.int 12))))))) (aNil)))) (aCons (fz (eCall tupleD (aCons (rd (eLc (iRg1 (rd (eV 2))) [20] (tN 20) (sYes) (fz (eB modD (rd (eB ixD (rd (eV 1)) (rd (eB addD (rd (eC (.int 9))) (rd (eV 20)))))) (rd (eC (.int 20))))))) (aNil)))) (aNil)))))
  (sSeq (sSet 5 (eB modD (rd (eB ixD (rd (eV 1)) (rd (eC (.int 17))))) (rd (eC (.int 40)))))
  (sSeq (sSet 6 (eLc (iRg1 (rd (eB shlD (rd (eC (.int 1))) (rd (eV 2))))) [23] (tN 23) (sYes) (fz (eCall tupleD (aCons (rd (eLc (iRg1 (rd (eV 2))) [20] (tN 20) (sT (rd (eB andD (rd (eB shrD (rd (eV 23)) (rd (eV 20)))) (rd (eC (.int 1)))))) (fz (eV 20)))) (aNil))))))
  (sSeq (sSet 7 (eLc (iSeqA (lsFor (eV 6) [6])) [24] (tN 24) (sV (eB leD (rd (eCall sumAD (aCons (rd (eLc (iSeqA (lsFor (eV 24) [24])) [20] (tN 20) (sYes) (fz (eB ixD (rd (eV 3)) (rd (eV 20)))))) (aNil)))) (rd (eV 5)))) (fz (eV 24))))
  (sSeq (sSet 8 (eCall (pickAD PySem.W.maxD) (aCons (rd (eLc (iSeqA (lsFor (eV 7) [7])) [24] (tN 24) (sYes) (fz (eCall lenD (aCons (rd (eV 24)) (aNil)))))) (aNil))))
  (sSeq (sAsg (tTup 2 (tCons (tN 9) (tCons (tN 10) (tNil)))) (eDef mf_most_flights (aCons (rd (eV 3)) (aCons (rd (eV 5)) (aNil))) (dd_most_flights.drop 0)))
  (sSeq (sSet 11 (eLc (iSeqA (lsFor (eSortC false (iCo (rd (eLc (iRg1 (rd (eV 2))) [20] (tN 20) (sYes) (fz (eTup (aCons (fz (eB ixD (rd (eV 3)) (rd (eV 20)))) (aCons (fz (eV 20)) (aNil))))))))) [])) [25] (tN 25) (sYes) (fz (eB ixD (rd (eV 25)) (rd (eC (.int 1)))))))
  (sSeq (sIf (sOr (sV (eB neD (rd (eV 9)) (rd (eV 8)))) (sOr (sV (eB neD (rd (eV 10)) (rd (eCall tupleD (aCons (rd (eSortC false (iCo (rd (eCut (rd (eV 11)) (pNone) (pSome (rd (eV 8)))))))) (aNil)))))) (sV (eB ninD (rd (eV 10)) (rd (eV 7)))))) (sRet (eC (.bool false))) (sPass))
  (sSeq (sSet 12 (eLc (iSeqA (lsFor (eV 7) [7])) [24] (tN 24) (sYes) (fz (eTup (aCons (fz (eB subD (rd (eC (.int 0))) (rd (eCall sumAD (aCons (rd (eLc (iSeqA (lsFor (eV 24) [24])) [20] (tN 20) (sYes) (fz (eB ixD (rd (eV 4)) (rd (eV 20)))))) (aNil)))))) (aCons (fz (eCall lenD (aCons (rd (eV 24)) (aNil)))) (aCons (fz (eV 24)) (aNil))))))))
  (sSeq (sIf (sV (eB neD (rd (eDef mf_best_worth (aCons (rd (eV 3)) (aCons (rd (eV 4)) (aCons (rd (eV 5)) (aNil)))) (dd_best_worth.drop 0))) (rd (eTup (aCons (fz (eB subD (rd (eC (.int 0))) (rd (eB ixD (rd (eCall (pickAD PySem.W.minD) (aCons (rd (eV 12)) (aNil)))) (rd (eC (.int 0))))))) (aCons (fz (eB ixD (rd (eCall (pickAD PySem.W.minD) (aCons (rd (eV 12)) (aNil)))) (rd (eC (.int 2))))) (aNil))))))) (sRet (eC (.bool false))) (sPass))
  (sSeq (sSet 13 (eB subD (rd (eC (.int 0))) (rd (eB ixD (rd (eCall (pickAD PySem.W.minD) (aCons (rd (eV 12)) (aNil)))) (rd (eC (.int 0)))))))
  (sSeq (sSet 14 (eDef mf_part_bound (aCons (rd (eV 3)) (aCons (rd (eV 4)) (aCons (fz (eV 5)) (aNil)))) (dd_part_bound.drop 0)))
  (sSeq (sIf (sOr (sV (eB neD (rd (eDef mf__law_low (aCons (rd (eB ixD (rd (eV 14)) (rd (eC (.int 0))))) (aCons (fz (eB ixD (rd (eV 14)) (rd (eC (.int 1))))) (aNil))) (dd__law_low.drop 0))) (rd (eV 14)))) (sOr (sV (eB ltD (rd (eB ixD (rd (eV 14)) (rd (eC (.int 0))))) (rd (eB mulD (rd (eV 13)) (rd (eB ixD (rd (eV 14)) (rd (eC (.int 1))))))))) (sV (eB gtD (rd (eB ixD (rd (eV 14)) (rd (eC (.int 0))))) (rd (eB mulD (rd (eB addD (rd (eV 13)) (rd (eCall (pickAD PySem.W.maxD) (aCons (rd (eB addD (rd (eTup (aCons (fz (eC (.int 0))) (aNil)))) (rd (eV 4)))) (aNil)))))) (rd (eB ixD (rd (eV 14)) (rd (eC (.int 1))))))))))) (sRet (eC (.bool false))) (sPass))
  (sSeq (sSet 15 (eLc (iRg1 (rd (eV 2))) [20] (tN 20) (sV (eB eqD (rd (eB ixD (rd (eV 3)) (rd (eV 20)))) (rd (eC (.int 0))))) (fz (eV 20))))
  (sSeq (sSet 16 (eLc (iRg1 (rd (eV 2))) [20] (tN 20) (sV (eB gtD (rd (eB ixD (rd (eV 3)) (rd (eV 20)))) (rd (eC (.int 0))))) (fz (eV 20))))
  (sSeq (sPar [17, 18] (pCons (eTup (aCons (fz (eCall sumAD (aCons (rd (eLc (iSeqA (lsFor (eV 15) [15])) [20] (tN 20) (sYes) (fz (eB ixD (rd (eV 4)) (rd (eV 20)))))) (aNil)))) (aCons (fz (eC (.int 1))) (aNil)))) (pCons (eV 5) (pNil))))
  (sSeq (sFor (iRg1 (rd (eCall lenD (aCons (rd (eV 16)) (aNil))))) [] (tN 19)
  (sSeq (sSet 20 (eB ixD (rd (eV 16)) (rd (eC (.int 0)))))
  (sSeq (sFor (iSeqA (lsFor (eV 16) [16])) [16] (tN 21)
  (sIf (sV (eB gtD (rd (eB mulD (rd (eB ixD (rd (eV 4)) (rd (eV 21)))) (rd (eB ixD (rd (eV 3)) (rd (eV 20)))))) (rd (eB mulD (rd (eB ixD (rd (eV 4)) (rd (eV 20)))) (rd (eB ixD (rd (eV 3)) (rd (eV 21)))))))) (sSet 20 (eV 21)) (sPass)) [21])
  (sSeq (sSet 16 (eLc (iSeqA (lsFor (eV 16) [16])) [21] (tN 21) (sV (eB neD (rd (eV 21)) (rd (eV 20)))) (fz (eV 21))))
  (sSeq (sSet 22 (eCall min2D (aCons (rd (eV 18)) (aCons (rd (eB ixD (rd (eV 3)) (rd (eV 20)))) (aNil)))))
  (sSeq (sSet 17 (eDef mf__law_low (aCons (rd (eB addD (rd (eB mulD (rd (eB ixD (rd (eV 17)) (rd (eC (.int 0))))) (rd (eB ixD (rd (eV 3)) (rd (eV 20)))))) (rd (eB mulD (rd (eB mulD (rd (eB ixD (rd (eV 4)) (rd (eV 20)))) (rd (eV 22)))) (rd (eB ixD (rd (eV 17)) (rd (eC (.int 1))))))))) (aCons (fz (eB mulD (rd (eB ixD (rd (eV 17)) (rd (eC (.int 1))))) (rd (eB ixD (rd (eV 3)) (rd (eV 20)))))) (aNil))) (dd__law_low.drop 0)))
  (sSet 18 (eB subD (rd (eV 18)) (rd (eV 22))))))))) [19, 20, 22])
  (sSeq (sIf (sV (eB neD (rd (eV 14)) (rd (eV 17)))) (sRet (eC (.bool false))) (sPass))
  (sRet (eAnd (eDef mf__law_refuses (aCons (rd (eV 3)) (aCons (rd (eB addD (rd (eV 4)) (rd (eTup (aCons (fz (eC (.int 1))) (aNil)))))) (aCons (rd (eV 5)) (aNil)))) (dd__law_refuses.drop 0)) (eAnd (eDef mf__law_refuses (aCons (rd (eV 3)) (aCons (rd (eV 4)) (aCons (rd (eB ixD (rd (eTup (aCons (fz (eU negD (rd (eC (.int 1))))) (aCons (fz (eC .none)) (aCons (fz (eC (.bool true))) (aNil)))))) (rd (eB modD (rd (eB ixD (rd (eV 1)) (rd (eC (.int 18))))) (rd (eC (.int 3))))))) (aNil)))) (dd__law_refuses.drop 0)) (eDef mf__law_refuses (aCons (rd (eB mulTD (rd (eTup (aCons (fz (eC (.int 1))) (aNil)))) (rd (eC (.int 13))))) (aCons (rd (eB mulTD (rd (eTup (aCons (fz (eC (.int 1))) (aNil)))) (rd (eC (.int 13))))) (aCons (rd (eC (.int 5))) (aNil)))) (dd__law_refuses.drop 0)))))))))))))))))))))))
theorem b_law {P : Program} {w : World} {K : Fr} {mg : Str → Option Value} {base : Heap} (F : Fx K mg base) {f : Addr} {cd : Value} {A : Around} {outer : List Env} {s : Shared} {H : Hp} {E : XK} (hcd : cd = .ref (He.codeOf K ("law", none))) (hr : Room 6 (A.deeper (envOfC "law" (sc 15) s.heap.objs.size f cd))) :
    DB (cxD P w K mg base N_law "law" (sc 15) f cd A outer s H E) (WB E) (bd 15).tail m_b_law := by
  have tk := takes_D (P := P) (w := w) (K := K) (mg := mg) (base := base) (N := N_law) (qual := "law") (scope := sc 15) (f := f) (cd := cd) (A := A) (outer := outer) (s := s) (H := H) (E := E)
  have hp := passes_D (P := P) (w := w) (K := K) (mg := mg) (base := base) (N := N_law) (qual := "law") (scope := sc 15) (f := f) (cd := cd) (A := A) (outer := outer) (s := s) (H := H) (E := E)
  exact (db_cons (ds_st nd_law l_law_many (de_mod (de_rd (de_ix (de_rd (de_n v_law_n)) (de_rd de_int))) (de_rd de_int)))
  (db_cons (ds_asg (de_fz (de_tup (daz_cons (de_fz (de_tuple1 (go_sc g_law_tuple) (m_tuple F) (dar_cons (de_rd (de_lc rfl nd_law (own := [("k", 20)]) (di_rg1 (go_sc g_law_range) (m_range F) (de_rd (de_n v_law_many))) (by kernel_rfl) (fun _ _ _ _ _ => (dg_n nd_law (LO.of (by kernel_rfl)))) (fun _ _ _ _ _ => dts_nil) (fun _ _ _ _ _ => (de_fz (de_mod (de_rd (de_ix (de_rd (de_n (VO.of (by kernel_rfl)))) (de_rd (de_add (de_rd de_int) (de_rd (de_n (VO.of (by kernel_rfl)))))))) (de_rd de_int)))))) dar_nil))) (daz_cons (de_fz (de_tuple1 (go_sc g_law_tuple) (m_tuple F) (dar_cons (de_rd (de_lc rfl nd_law (own := [("k", 20)]) (di_rg1 (go_sc g_law_range) (m_range F) (de_rd (de_n v_law_many))) (by kernel_rfl) (fun _ _ _ _ _ => (dg_n nd_law (LO.of (by kernel_rfl)))) (fun _ _ _ _ _ => dts_nil) (fun _ _ _ _ _ => (de_fz (de_mod (de_rd (de_ix (de_rd (de_n (VO.of (by kernel_rfl)))) (de_rd (de_add (de_rd de_int) (de_rd (de_n (VO.of (by kernel_rfl)))))))) (de_rd de_int)))))) dar_nil))) daz_nil)))) (dg_tup rfl (dgs_cons (dg_n nd_law l_law_noises) (dgs_cons (dg_n nd_law l_law_worths) dgs_nil))))
  (db_cons (ds_st nd_law l_law_bound (de_mod (de_rd (de_ix (de_rd (de_n v_law_n)) (de_rd de_int))) (de_rd de_int)))
  (db_cons (ds_setLc rfl nd_law s_law_sets (own := [("code", 23)]) (di_rg1 (go_sc g_law_range) (m_range F) (de_rd (de_shl (de_rd de_int) (de_rd (de_n v_law_many))))) (by kernel_rfl) (fun _ _ _ _ _ => (dg_n nd_law (LO.of (by kernel_rfl)))) (fun _ _ _ _ _ => dts_nil) (fun _ _ _ _ _ => (de_fz (de_tuple1 (go_sc (by kernel_rfl)) (m_tuple F) (dar_cons (de_rd (de_lc rfl nd_law (own := [("k", 20)]) (di_rg1 (go_sc (by kernel_rfl)) (m_range F) (de_rd (de_n (VO.of (by kernel_rfl))))) (by kernel_rfl) (fun _ _ _ _ _ => (dg_n nd_law (LO.of (by kernel_rfl)))) (fun _ _ _ _ _ => (dts_one (dt_of (de_rd (de_and2 (de_rd (de_shr (de_rd (de_n (VO.of (by kernel_rfl)))) (de_rd (de_n (VO.of (by kernel_rfl)))))) (de_rd de_int)))))) (fun _ _ _ _ _ => (de_fz (de_n (VO.of (by kernel_rfl))))))) dar_nil)))) rfl)
  (db_cons (ds_setLc rfl nd_law s_law_good (own := [("some", 24)]) (di_seqA (de_n v_law_sets)) (by kernel_rfl) (fun _ _ _ _ _ => (dg_n nd_law (LO.of (by kernel_rfl)))) (fun _ _ _ _ _ => (dts_one (dc_t (dc_le (de_rd (de_sumA rfl (go_sc (by kernel_rfl)) (m_sum F) (dar_cons (de_rd (de_lc rfl nd_law (own := [("k", 20)]) (di_seqA (de_n (VO.of (by kernel_rfl)))) (by kernel_rfl) (fun _ _ _ _ _ => (dg_n nd_law (LO.of (by kernel_rfl)))) (fun _ _ _ _ _ => dts_nil) (fun _ _ _ _ _ => (de_fz (de_ix (de_rd (de_n (VO.of (by kernel_rfl)))) (de_rd (de_n (VO.of (by kernel_rfl))))))))) dar_nil))) (de_rd (de_n (VO.of (by kernel_rfl)))))))) (fun _ _ _ _ _ => (de_fz (de_n (VO.of (by kernel_rfl))))) rfl)
  (db_cons (ds_st nd_law l_law_top (de_maxA rfl hr (go_sc g_law_max) (m_max F) (dar_cons (de_rd (de_lc rfl nd_law (own := [("some", 24)]) (di_seqA (de_n v_law_good)) (by kernel_rfl) (fun _ _ _ _ _ => (dg_n nd_law (LO.of (by kernel_rfl)))) (fun _ _ _ _ _ => dts_nil) (fun _ _ _ _ _ => (de_fz (de_len (go_sc (by kernel_rfl)) (m_len F) (dar_cons (de_rd (de_n (VO.of (by kernel_rfl)))) dar_nil)))))) dar_nil)))
  (db_cons (ds_asg (de_fz (de_call (ms := [false, false]) (ms' := []) ((d_most_flights F).mono (by decide)) 0 hr tk (go_sc g_law_most_flights) (dam_b (de_rd (de_n v_law_noises)) (dam_b (de_rd (de_n v_law_bound)) dam_nil)))) (dg_tup rfl (dgs_cons (dg_n nd_law l_law_count) (dgs_cons (dg_n nd_law l_law_chosen) dgs_nil))))
  (db_cons (ds_setLc rfl nd_law s_law_order (own := [("pair", 25)]) (di_seqA (de_sortC hr (ti_law F) (go_sc g_law_sorted) (m_sorted F) (dco_seq (de_rd (de_lc rfl nd_law (own := [("k", 20)]) (di_rg1 (go_sc g_law_range) (m_range F) (de_rd (de_n v_law_many))) (by kernel_rfl) (fun _ _ _ _ _ => (dg_n nd_law (LO.of (by kernel_rfl)))) (fun _ _ _ _ _ => dts_nil) (fun _ _ _ _ _ => (de_fz (de_tup (daz_cons (de_fz (de_ix (de_rd (de_n (VO.of (by kernel_rfl)))) (de_rd (de_n (VO.of (by kernel_rfl)))))) (daz_cons (de_fz (de_n (VO.of (by kernel_rfl)))) daz_nil)))))))))) (by kernel_rfl) (fun _ _ _ _ _ => (dg_n nd_law (LO.of (by kernel_rfl)))) (fun _ _ _ _ _ => dts_nil) (fun _ _ _ _ _ => (de_fz (de_ix (de_rd (de_n (VO.of (by kernel_rfl)))) (de_rd de_int)))) rfl)
  (db_cons (ds_if (dt_w (dw_or (dc_t (dc_ne hr (de_rd (de_n v_law_count)) (de_rd (de_n v_law_top)))) (dw_or (dc_t (dc_ne hr (de_rd (de_n v_law_chosen)) (de_rd (de_tuple1 (go_sc g_law_tuple) (m_tuple F) (dar_cons (de_rd (de_sortC hr (ti_law F) (go_sc g_law_sorted) (m_sorted F) (dco_seq (de_rd (de_cut (de_rd (de_n v_law_order)) dp_none (dp_some (de_rd (de_n v_law_top)))))))) dar_nil))))) (dw_or1 (dc_t (dc_nin hr rfl (de_rd (de_n v_law_chosen)) (de_rd (de_n v_law_good)))))))) (db_one (ds_ret de_bool)) db_nil)
  (db_cons (ds_setLc rfl nd_law s_law_keys (own := [("some", 24)]) (di_seqA (de_n v_law_good)) (by kernel_rfl) (fun _ _ _ _ _ => (dg_n nd_law (LO.of (by kernel_rfl)))) (fun _ _ _ _ _ => dts_nil) (fun _ _ _ _ _ => (de_fz (de_tup (daz_cons (de_fz (de_sub (de_rd de_int) (de_rd (de_sumA rfl (go_sc (by kernel_rfl)) (m_sum F) (dar_cons (de_rd (de_lc rfl nd_law (own := [("k", 20)]) (di_seqA (de_n (VO.of (by kernel_rfl)))) (by kernel_rfl) (fun _ _ _ _ _ => (dg_n nd_law (LO.of (by kernel_rfl)))) (fun _ _ _ _ _ => dts_nil) (fun _ _ _ _ _ => (de_fz (de_ix (de_rd (de_n (VO.of (by kernel_rfl)))) (de_rd (de_n (VO.of (by kernel_rfl))))))))) dar_nil))))) (daz_cons (de_fz (de_len (go_sc (by kernel_rfl)) (m_len F) (dar_cons (de_rd (de_n (VO.of (by kernel_rfl)))) dar_nil))) (daz_cons (de_fz (de_n (VO.of (by kernel_rfl)))) daz_nil)))))) rfl)
  (db_cons (ds_if (dc_t (dc_ne hr (de_rd (de_call (ms := [false, false, false]) (ms' := []) ((d_best_worth F).mono (by decide)) 0 hr tk (go_sc g_law_best_worth) (dam_b (de_rd (de_n v_law_noises)) (dam_b (de_rd (de_n v_law_worths)) (dam_b (de_rd (de_n v_law_bound)) dam_nil))))) (de_rd (de_tup (daz_cons (de_fz (de_sub (de_rd de_int) (de_rd (de_ix (de_rd (de_minA rfl hr (go_sc g_law_min) (m_min F) (dar_cons (de_rd (de_n v_law_keys)) dar_nil))) (de_rd de_int))))) (daz_cons (de_fz (de_ix (de_rd (de_minA rfl hr (go_sc g_law_min) (m_min F) (dar_cons (de_rd (de_n v_law_keys)) dar_nil))) (de_rd de_int))) daz_nil)))))) (db_one (ds_ret de_bool)) db_nil)
  (db_cons (ds_st nd_law l_law_best (de_sub (de_rd de_int) (de_rd (de_ix (de_rd (de_minA rfl hr (go_sc g_law_min) (m_min F) (dar_cons (de_rd (de_n v_law_keys)) dar_nil))) (de_rd de_int)))))
  (db_cons (ds_st nd_law l_law_told (de_call (ms := [false, false, true]) (ms' := []) ((d_part_bound F).mono (by decide)) 0 hr tk (go_sc g_law_part_bound) (dam_b (de_rd (de_n v_law_noises)) (dam_b (de_rd (de_n v_law_worths)) (dam_v (de_fz (de_n v_law_bound)) dam_nil)))))
  (db_cons (ds_if (dt_w (dw_or (dc_t (dc_ne hr (de_rd (de_call (ms := [false, true]) (ms' := []) ((d__law_low F).mono (by decide)) 0 hr tk (go_sc g_law__law_low) (dam_b (de_rd (de_ix (de_rd (de_n v_law_told)) (de_rd de_int))) (dam_v (de_fz (de_ix (de_rd (de_n v_law_told)) (de_rd de_int))) dam_nil)))) (de_rd (de_n v_law_told)))) (dw_or (dc_t (dc_lt (de_rd (de_ix (de_rd (de_n v_law_told)) (de_rd de_int))) (de_rd (de_mul (de_rd (de_n v_law_best)) (de_rd (de_ix (de_rd (de_n v_law_told)) (de_rd de_int))))))) (dw_or1 (dc_t (dc_gt (de_rd (de_ix (de_rd (de_n v_law_told)) (de_rd de_int))) (de_rd (de_mul (de_rd (de_add (de_rd (de_n v_law_best)) (de_rd (de_maxA rfl hr (go_sc g_law_max) (m_max F) (dar_cons (de_rd (de_add (de_rd (de_tup (daz_cons (de_fz de_int) daz_nil))) (de_rd (de_n v_law_worths)))) dar_nil))))) (de_rd (de_ix (de_rd (de_n v_law_told)) (de_rd de_int))))))))))) (db_one (ds_ret de_bool)) db_nil)
  (db_cons (ds_setLc rfl nd_law s_law_free (own := [("k", 20)]) (di_rg1 (go_sc g_law_range) (m_range F) (de_rd (de_n v_law_many))) (by kernel_rfl) (fun _ _ _ _ _ => (dg_n nd_law (LO.of (by kernel_rfl)))) (fun _ _ _ _ _ => (dts_one (dc_t (dc_eq hr (de_rd (de_ix (de_rd (de_n (VO.of (by kernel_rfl)))) (de_rd (de_n (VO.of (by kernel_rfl)))))) (de_rd de_int))))) (fun _ _ _ _ _ => (de_fz (de_n (VO.of (by kernel_rfl))))) rfl)
  (db_cons (ds_setLc rfl nd_law s_law_rest (own := [("k", 20)]) (di_rg1 (go_sc g_law_range) (m_range F) (de_rd (de_n v_law_many))) (by kernel_rfl) (fun _ _ _ _ _ => (dg_n nd_law (LO.of (by kernel_rfl)))) (fun _ _ _ _ _ => (dts_one (dc_t (dc_gt (de_rd (de_ix (de_rd (de_n (VO.of (by kernel_rfl)))) (de_rd (de_n (VO.of (by kernel_rfl)))))) (de_rd de_int))))) (fun _ _ _ _ _ => (de_fz (de_n (VO.of (by kernel_rfl))))) rfl)
  (db_cons (ds_par2 nd_law rfl s_law_value s_law_left (dpv_cons (de_tup (daz_cons (de_fz (de_sumA rfl (go_sc g_law_sum) (m_sum F) (dar_cons (de_rd (de_lc rfl nd_law (own := [("k", 20)]) (di_seqA (de_n v_law_free)) (by kernel_rfl) (fun _ _ _ _ _ => (dg_n nd_law (LO.of (by kernel_rfl)))) (fun _ _ _ _ _ => dts_nil) (fun _ _ _ _ _ => (de_fz (de_ix (de_rd (de_n (VO.of (by kernel_rfl)))) (de_rd (de_n (VO.of (by kernel_rfl))))))))) dar_nil))) (daz_cons (de_fz de_int) daz_nil))) (dpv_cons (de_n v_law_bound) dpv_nil)) rfl)
  (db_cons (ds_for hp rfl (di_rg1 (go_sc g_law_range) (m_range F) (de_rd (de_len (go_sc g_law_len) (m_len F) (dar_cons (de_rd (de_n v_law_rest)) dar_nil)))) (dg_n nd_law l_law_turn)
  (db_cons (ds_st nd_law l_law_k (de_ix (de_rd (de_n v_law_rest)) (de_rd de_int)))
  (db_cons (ds_for hp rfl (di_seqA (de_n v_law_rest)) (dg_n nd_law l_law_j)
  (db_one (ds_if (dc_t (dc_gt (de_rd (de_mul (de_rd (de_ix (de_rd (de_n v_law_worths)) (de_rd (de_n v_law_j)))) (de_rd (de_ix (de_rd (de_n v_law_noises)) (de_rd (de_n v_law_k)))))) (de_rd (de_mul (de_rd (de_ix (de_rd (de_n v_law_worths)) (de_rd (de_n v_law_k)))) (de_rd (de_ix (de_rd (de_n v_law_noises)) (de_rd (de_n v_law_j)))))))) (db_one (ds_st nd_law l_law_k (de_n v_law_j))) db_nil)))
  (db_cons (ds_setLc rfl nd_law s_law_rest (own := [("j", 21)]) (di_seqA (de_n v_law_rest)) (by kernel_rfl) (fun _ _ _ _ _ => (dg_n nd_law (LO.of (by kernel_rfl)))) (fun _ _ _ _ _ => (dts_one (dc_t (dc_ne hr (de_rd (de_n (VO.of (by kernel_rfl)))) (de_rd (de_n (VO.of (by kernel_rfl)))))))) (fun _ _ _ _ _ => (de_fz (de_n (VO.of (by kernel_rfl))))) rfl)
  (db_cons (ds_st nd_law l_law_part (de_min2 rfl (go_sc g_law_min) (m_min F) (dar_cons (de_rd (de_n v_law_left)) (dar_cons (de_rd (de_ix (de_rd (de_n v_law_noises)) (de_rd (de_n v_law_k)))) dar_nil))))
  (db_cons (ds_st nd_law l_law_value (de_call (ms := [false, true]) (ms' := []) ((d__law_low F).mono (by decide)) 0 hr tk (go_sc g_law__law_low) (dam_b (de_rd (de_add (de_rd (de_mul (de_rd (de_ix (de_rd (de_n v_law_value)) (de_rd de_int))) (de_rd (de_ix (de_rd (de_n v_law_noises)) (de_rd (de_n v_law_k)))))) (de_rd (de_mul (de_rd (de_mul (de_rd (de_ix (de_rd (de_n v_law_worths)) (de_rd (de_n v_law_k)))) (de_rd (de_n v_law_part)))) (de_rd (de_ix (de_rd (de_n v_law_value)) (de_rd de_int))))))) (dam_v (de_fz (de_mul (de_rd (de_ix (de_rd (de_n v_law_value)) (de_rd de_int))) (de_rd (de_ix (de_rd (de_n v_law_noises)) (de_rd (de_n v_law_k)))))) dam_nil))))
  (db_one (ds_st nd_law l_law_left (de_sub (de_rd (de_n v_law_left)) (de_rd (de_n v_law_part)))))))))))
  (db_cons (ds_if (dc_t (dc_ne hr (de_rd (de_n v_law_told)) (de_rd (de_n v_law_value)))) (db_one (ds_ret de_bool)) db_nil)
  (db_one (ds_ret (de_and (de_call (ms := [false, false, false]) (ms' := []) ((d__law_refuses F).mono (by decide)) 0 hr tk (go_sc g_law__law_refuses) (dam_b (de_rd (de_n v_law_noises)) (dam_b (de_rd (de_add (de_rd (de_n v_law_worths)) (de_rd (de_tup (daz_cons (de_fz de_int) daz_nil))))) (dam_b (de_rd (de_n v_law_bound)) dam_nil)))) (de_and (de_call (ms := [false, false, false]) (ms' := []) ((d__law_refuses F).mono (by decide)) 0 hr tk (go_sc g_law__law_refuses) (dam_b (de_rd (de_n v_law_noises)) (dam_b (de_rd (de_n v_law_worths)) (dam_b (de_rd (de_ix (de_rd (de_tup (daz_cons (de_fz (de_neg (de_rd de_int))) (daz_cons (de_fz de_none) (daz_cons (de_fz de_bool) daz_nil))))) (de_rd (de_mod (de_rd (de_ix (de_rd (de_n v_law_n)) (de_rd de_int))) (de_rd de_int))))) dam_nil)))) (de_one (de_call (ms := [false, false, false]) (ms' := []) ((d__law_refuses F).mono (by decide)) 0 hr tk (go_sc g_law__law_refuses) (dam_b (de_rd (de_mulT (de_rd (de_tup (daz_cons (de_fz de_int) daz_nil))) (de_rd de_int))) (dam_b (de_rd (de_mulT (de_rd (de_tup (daz_cons (de_fz de_int) daz_nil))) (de_rd de_int))) (dam_b (de_rd de_int) dam_nil))))))))))))))))))))))))))))
end LW
namespace LW
open PySem PySem.Spec PyProof.Rows L2 DL
section
variable (w c : Nat → Int)
def fin (k : Nat) : Bool := decide (0 < c k)
def insI (x : Nat) : List Nat → List Nat
  | [] => [x]
  | y :: r => if w x * c y ≤ w y * c x then y :: insI x r else x :: y :: r
def srtR (l : List Nat) : List Nat := l.foldl (fun R x => insI w c x R) []
theorem insI_perm (x : Nat) : ∀ R, (insI w c x R).Perm (x :: R)
  | [] => List.Perm.refl _
  | y :: r => by
    unfold insI
    split
    · exact ((insI_perm x r).cons y).trans (List.Perm.swap x y r)
    · exact List.Perm.refl _
theorem fold_perm : ∀ (l R : List Nat), (l.foldl (fun R x => insI w c x R) R).Perm (R ++ l)
  | [], R => by simp
  | x :: l, R => by
    refine (fold_perm l (insI w c x R)).trans ?_
    have h := (insI_perm w c x R).append_right l
    refine h.trans ?_
    exact (List.perm_middle (a := x) (l₁ := R) (l₂ := l)).symm
theorem srtR_perm (l : List Nat) : (srtR w c l).Perm l := by
  have := fold_perm w c l []
  simpa [srtR] using this
/-- x comes ahead of y -/
def prec (a b : Nat) : Prop := w b * c a < w a * c b ∨ (w a * c b = w b * c a ∧ a < b)
theorem mul3 {a b d e f g : Int} (hb : 0 < e) (h1 : b * d ≤ a * e) (h2 : g * e ≤ b * f) (hd : 0 ≤ d) (hf : 0 ≤ f) : g * d ≤ a * f := by
  -- a/d ≥ b/e ≥ g/f
  have p1 : b * d * f ≤ a * e * f := Int.mul_le_mul_of_nonneg_right h1 hf
  have p2 : g * e * d ≤ b * f * d := Int.mul_le_mul_of_nonneg_right h2 hd
  have q1 : g * e * d = g * d * e := by rw [Int.mul_assoc, Int.mul_comm e d, ← Int.mul_assoc]
  have q2 : b * f * d = b * d * f := by rw [Int.mul_assoc, Int.mul_comm f d, ← Int.mul_assoc]
  have q3 : a * e * f = a * f * e := by rw [Int.mul_assoc, Int.mul_comm e f, ← Int.mul_assoc]
  rw [q1, q2] at p2
  rw [q3] at p1
  exact Int.le_of_mul_le_mul_right (Int.le_trans p2 p1) hb
theorem mul3l {a b d e f g : Int} (hb : 0 < e) (h1 : b * d < a * e) (h2 : g * e ≤ b * f) (hd : 0 ≤ d) (hf : 0 < f) : g * d < a * f := by
  have p1 : b * d * f < a * e * f := Int.mul_lt_mul_of_pos_right h1 hf
  have p2 : g * e * d ≤ b * f * d := Int.mul_le_mul_of_nonneg_right h2 hd
  have q1 : g * e * d = g * d * e := by rw [Int.mul_assoc, Int.mul_comm e d, ← Int.mul_assoc]
  have q2 : b * f * d = b * d * f := by rw [Int.mul_assoc, Int.mul_comm f d, ← Int.mul_assoc]
  have q3 : a * e * f = a * f * e := by rw [Int.mul_assoc, Int.mul_comm e f, ← Int.mul_assoc]
  rw [q1, q2] at p2
  rw [q3] at p1
  exact Int.lt_of_mul_lt_mul_right (Int.lt_of_le_of_lt p2 p1) (Int.le_of_lt hb)
theorem mul3r {a b d e f g : Int} (hb : 0 < e) (h1 : b * d ≤ a * e) (h2 : g * e < b * f) (hd : 0 < d) (hf : 0 ≤ f) : g * d < a * f := by
  have p1 : b * d * f ≤ a * e * f := Int.mul_le_mul_of_nonneg_right h1 hf
  have p2 : g * e * d < b * f * d := Int.mul_lt_mul_of_pos_right h2 hd
  have q1 : g * e * d = g * d * e := by rw [Int.mul_assoc, Int.mul_comm e d, ← Int.mul_assoc]
  have q2 : b * f * d = b * d * f := by rw [Int.mul_assoc, Int.mul_comm f d, ← Int.mul_assoc]
  have q3 : a * e * f = a * f * e := by rw [Int.mul_assoc, Int.mul_comm e f, ← Int.mul_assoc]
  rw [q1, q2] at p2
  rw [q3] at p1
  exact Int.lt_of_mul_lt_mul_right (Int.lt_of_lt_of_le p2 p1) (Int.le_of_lt hb)
theorem prec_le {a b : Nat} (h : prec w c a b) : w b * c a ≤ w a * c b := by rcases h with h | ⟨h, _⟩ <;> omega
theorem prec_tr {a b d : Nat} (ha : 0 < c a) (hb : 0 < c b) (hd : 0 < c d) (h1 : prec w c a b) (h2 : prec w c b d) : prec w c a d := by
  have l1 := prec_le w c h1
  have l2 := prec_le w c h2
  have l3 := mul3 hb l1 l2 (Int.le_of_lt ha) (Int.le_of_lt hd)
  rcases h1 with h1 | ⟨h1, i1⟩
  · exact .inl (mul3l hb h1 l2 (Int.le_of_lt ha) hd)
  · rcases h2 with h2 | ⟨h2, i2⟩
    · exact .inl (mul3r hb l1 h2 ha (Int.le_of_lt hd))
    · by_cases e : w d * c a < w a * c d
      · exact .inl e
      · exact .inr ⟨by omega, by omega⟩
theorem prec_as {a b : Nat} (h1 : prec w c a b) (h2 : prec w c b a) : False := by
  rcases h1 with h1 | ⟨h1, i1⟩ <;> rcases h2 with h2 | ⟨h2, i2⟩ <;> omega
theorem insI_mem {x z : Nat} {R : List Nat} : z ∈ insI w c x R ↔ z = x ∨ z ∈ R := by
  rw [(insI_perm w c x R).mem_iff, List.mem_cons]
theorem insI_pw {x : Nat} (hx : 0 < c x) : ∀ (R : List Nat), (∀ y ∈ R, 0 < c y ∧ y < x) → R.Pairwise (prec w c) → (insI w c x R).Pairwise (prec w c)
  | [], _, _ => by simp [insI]
  | y :: r, h, hp => by
    have hp' := List.pairwise_cons.mp hp
    have hy := h y List.mem_cons_self
    unfold insI
    by_cases hc : w x * c y ≤ w y * c x
    · rw [if_pos hc, List.pairwise_cons]
      refine ⟨fun z hz => ?_, insI_pw hx r (fun z hz => h z (List.mem_cons_of_mem _ hz)) hp'.2⟩
      rcases (insI_mem w c).mp hz with e | hz
      · subst e
        by_cases e : w z * c y < w y * c z
        · exact .inl e
        · exact .inr ⟨by omega, hy.2⟩
      · exact hp'.1 z hz
    · rw [if_neg hc, List.pairwise_cons]
      refine ⟨fun z hz => ?_, hp⟩
      have xy : prec w c x y := .inl (by omega)
      rcases List.mem_cons.mp hz with e | hz
      · subst e; exact xy
      · exact prec_tr w c hx hy.1 (h z (List.mem_cons_of_mem _ hz)).1 xy (hp'.1 z hz)
theorem fold_pw : ∀ (l R : List Nat), l.Pairwise (· < ·) → (∀ x ∈ l, 0 < c x) → (∀ y ∈ R, 0 < c y ∧ ∀ x ∈ l, y < x) → R.Pairwise (prec w c) → (l.foldl (fun R x => insI w c x R) R).Pairwise (prec w c)
  | [], _, _, _, _, h => h
  | x :: l, R, hl, hx, hR, h => by
    have hl' := List.pairwise_cons.mp hl
    refine fold_pw l (insI w c x R) hl'.2 (fun z hz => hx z (List.mem_cons_of_mem _ hz)) (fun y hy => ?_) (insI_pw w c (hx x List.mem_cons_self) R (fun y hy => ⟨(hR y hy).1, (hR y hy).2 x List.mem_cons_self⟩) h)
    rcases (insI_mem w c).mp hy with e | hy
    · subst e; exact ⟨hx y List.mem_cons_self, fun z hz => hl'.1 z hz⟩
    · exact ⟨(hR y hy).1, fun z hz => (hR y hy).2 z (List.mem_cons_of_mem _ hz)⟩
theorem srtR_pw {l : List Nat} (hl : l.Pairwise (· < ·)) (hx : ∀ x ∈ l, 0 < c x) : (srtR w c l).Pairwise (prec w c) := fold_pw w c l [] hl hx (fun y hy => by cases hy) List.Pairwise.nil
def best1 (k : Nat) (l : List Nat) : Nat := l.foldl (fun k j => if w k * c j < w j * c k then j else k) k
theorem best1_go : ∀ (l pre : List Nat) (k : Nat), (pre ++ l).Pairwise (· < ·) → (∀ x ∈ pre ++ l, 0 < c x) → k ∈ pre → (∀ j ∈ pre, j ≠ k → prec w c k j) → best1 w c k l ∈ pre ++ l ∧ ∀ j ∈ pre ++ l, j ≠ best1 w c k l → prec w c (best1 w c k l) j
  | [], pre, k, _, _, hk, h => by
    rw [List.append_nil]
    exact ⟨hk, h⟩
  | x :: l, pre, k, hp, hx, hk, h => by
    have e : pre ++ x :: l = (pre ++ [x]) ++ l := by simp
    have hlt : ∀ y ∈ pre, y < x := fun y hy => (List.pairwise_append.mp hp).2.2 y hy x List.mem_cons_self
    have ck : 0 < c k := hx k (List.mem_append_left _ hk)
    have cx : 0 < c x := hx x (by simp)
    rw [e] at hp hx ⊢
    show best1 w c (if w k * c x < w x * c k then x else k) l ∈ _ ∧ ∀ j ∈ _, j ≠ best1 w c (if w k * c x < w x * c k then x else k) l → prec w c (best1 w c (if w k * c x < w x * c k then x else k) l) j
    by_cases hc : w k * c x < w x * c k
    · rw [if_pos hc]
      refine best1_go l (pre ++ [x]) x hp hx (by simp) fun j hj hne => ?_
      have xk : prec w c x k := .inl hc
      rcases List.mem_append.mp hj with hj | hj
      · by_cases ek : j = k
        · rw [ek]; exact xk
        · exact prec_tr w c cx ck (hx j (by simp [hj])) xk (h j hj ek)
      · exact absurd (List.mem_singleton.mp hj) hne
    · rw [if_neg hc]
      refine best1_go l (pre ++ [x]) k hp hx (by simp [hk]) fun j hj hne => ?_
      rcases List.mem_append.mp hj with hj | hj
      · exact h j hj hne
      · rw [List.mem_singleton.mp hj]
        by_cases e : w x * c k < w k * c x
        · exact .inl e
        · exact .inr ⟨by omega, hlt k hk⟩
theorem best1_ok {x : Nat} {l : List Nat} (hp : (x :: l).Pairwise (· < ·)) (hx : ∀ y ∈ x :: l, 0 < c y) : best1 w c x (x :: l) ∈ x :: l ∧ ∀ j ∈ x :: l, j ≠ best1 w c x (x :: l) → prec w c (best1 w c x (x :: l)) j := by
  have e : best1 w c x (x :: l) = best1 w c x l := by
    show best1 w c (if w x * c x < w x * c x then x else x) l = _
    rw [if_neg (Int.lt_irrefl _)]
  rw [e]
  exact best1_go w c l [x] x hp hx (by simp) fun j hj hne => absurd (List.mem_singleton.mp hj) hne
def picks : Nat → List Nat → List Nat
  | 0, _ => []
  | n + 1, l => best1 w c (l.headD 0) l :: picks n (l.filter fun j => decide (j ≠ best1 w c (l.headD 0) l))
theorem filter_ne_perm {k : Nat} : ∀ {l : List Nat}, l.Nodup → k ∈ l → l.Perm (k :: l.filter fun j => decide (j ≠ k))
  | x :: l, hn, hk => by
    have hn' := List.nodup_cons.mp hn
    by_cases e : x = k
    · subst e
      have : (x :: l).filter (fun j => decide (j ≠ x)) = l := by
        rw [List.filter_cons_of_neg (by simp)]
        exact List.filter_eq_self.mpr fun y hy => decide_eq_true fun z => hn'.1 (by rw [← z]; exact hy)
      rw [this]
    · have hk' : k ∈ l := by
        rcases List.mem_cons.mp hk with z | z
        · exact absurd z.symm e
        · exact z
      rw [List.filter_cons_of_pos (by simp [e])]
      exact ((filter_ne_perm hn'.2 hk').cons x).trans (List.Perm.swap _ _ _)
theorem picks_ok : ∀ (n : Nat) (l : List Nat), l.length = n → l.Pairwise (· < ·) → (∀ x ∈ l, 0 < c x) → (picks w c n l).Perm l ∧ (picks w c n l).Pairwise (prec w c)
  | 0, l, hn, _, _ => by
    have : l = [] := List.length_eq_zero_iff.mp hn
    subst this
    exact ⟨List.Perm.refl _, List.Pairwise.nil⟩
  | n + 1, [], hn, _, _ => by simp at hn
  | n + 1, x :: l, hn, hp, hx => by
    obtain ⟨h1, h2⟩ := best1_ok w c hp hx
    have nd : (x :: l).Nodup := hp.imp fun h => Nat.ne_of_lt h
    have pm := filter_ne_perm nd h1
    show (best1 w c x (x :: l) :: picks w c n ((x :: l).filter fun j => decide (j ≠ best1 w c x (x :: l)))).Perm (x :: l) ∧ (best1 w c x (x :: l) :: picks w c n ((x :: l).filter fun j => decide (j ≠ best1 w c x (x :: l)))).Pairwise (prec w c)
    generalize best1 w c x (x :: l) = k at *
    have hlen := pm.length_eq
    obtain ⟨q1, q2⟩ := picks_ok n ((x :: l).filter fun j => decide (j ≠ k)) (by simp only [List.length_cons] at *; omega) (hp.sublist List.filter_sublist) fun y hy => hx y (List.mem_filter.mp hy).1
    refine ⟨(q1.cons k).trans pm.symm, List.pairwise_cons.mpr ⟨fun j hj => ?_, q2⟩⟩
    have hj := q1.mem_iff.mp hj
    have hm := List.mem_filter.mp hj
    exact h2 j hm.1 (by simpa using hm.2)
theorem picks_srt {l : List Nat} (hp : l.Pairwise (· < ·)) (hx : ∀ x ∈ l, 0 < c x) : picks w c l.length l = srtR w c l := by
  obtain ⟨p1, p2⟩ := picks_ok w c l.length l rfl hp hx
  refine List.Perm.eq_of_pairwise (le := prec w c) (fun a b _ _ h1 h2 => (prec_as w c h1 h2).elim) p2 (srtR_pw w c hp hx) (p1.trans (srtR_perm w c l).symm)
end
section
variable (w c : Nat → Int)
def stp (s : Int × Int × Int) (k : Nat) : Int × Int × Int := if c k ≤ s.2.2 then (s.1 + w k * s.2.1, s.2.1, s.2.2 - c k) else if 0 < s.2.2 then (s.1 * c k + w k * s.2.2 * s.2.1, s.2.1 * c k, 0) else s
def runW (s : Int × Int × Int) (l : List Nat) : Int × Int × Int := l.foldl (stp w c) s
theorem run_nil (s : Int × Int × Int) : runW w c s [] = s := rfl
theorem run_cons (s : Int × Int × Int) (k : Nat) (l : List Nat) : runW w c s (k :: l) = runW w c (stp w c s k) l := rfl
theorem run_app (s : Int × Int × Int) (l r : List Nat) : runW w c s (l ++ r) = runW w c (runW w c s l) r := List.foldl_append
def sm (f : Nat → Int) (l : List Nat) : Int := (l.map f).sum
theorem sm_nil (f : Nat → Int) : sm f [] = 0 := rfl
theorem sm_cons (f : Nat → Int) (k : Nat) (l : List Nat) : sm f (k :: l) = f k + sm f l := by unfold sm; rw [List.map_cons, List.sum_cons]
theorem sm_app (f : Nat → Int) : ∀ l r : List Nat, sm f (l ++ r) = sm f l + sm f r
  | [], r => by rw [List.nil_append, sm_nil, Int.zero_add]
  | k :: l, r => by rw [List.cons_append, sm_cons, sm_cons, sm_app f l r, Int.add_assoc]
theorem sm_perm (f : Nat → Int) {l r : List Nat} (h : l.Perm r) : sm f l = sm f r := by
  induction h with
  | nil => rfl
  | cons x _ ih => rw [sm_cons, sm_cons, ih]
  | swap x y l => rw [sm_cons, sm_cons, sm_cons, sm_cons]; omega
  | trans _ _ a b => exact a.trans b
theorem sm_zero (f : Nat → Int) : ∀ l : List Nat, (∀ k ∈ l, f k = 0) → sm f l = 0
  | [], _ => rfl
  | k :: l, h => by rw [sm_cons, h k List.mem_cons_self, sm_zero f l fun j hj => h j (List.mem_cons_of_mem _ hj)]; rfl
theorem sm_nonneg (f : Nat → Int) : ∀ l : List Nat, (∀ k ∈ l, 0 ≤ f k) → 0 ≤ sm f l
  | [], _ => by rw [sm_nil]; exact Int.le_refl _
  | k :: l, h => by
    have h1 := h k List.mem_cons_self
    have h2 := sm_nonneg f l fun j hj => h j (List.mem_cons_of_mem _ hj)
    rw [sm_cons]; omega
theorem sm_le (f g : Nat → Int) : ∀ l : List Nat, (∀ k ∈ l, f k ≤ g k) → sm f l ≤ sm g l
  | [], _ => Int.le_refl _
  | k :: l, h => by
    have h1 := h k List.mem_cons_self
    have h2 := sm_le f g l fun j hj => h j (List.mem_cons_of_mem _ hj)
    rw [sm_cons, sm_cons]; omega
theorem sm_add (f g : Nat → Int) : ∀ l : List Nat, sm (fun k => f k + g k) l = sm f l + sm g l
  | [] => rfl
  | k :: l => by rw [sm_cons, sm_cons, sm_cons, sm_add f g l]; omega
theorem sm_mul (f : Nat → Int) (x : Int) : ∀ l : List Nat, sm (fun k => f k * x) l = sm f l * x
  | [] => by rw [sm_nil, sm_nil, Int.zero_mul]
  | k :: l => by rw [sm_cons, sm_cons, sm_mul f x l, Int.add_mul]
theorem sm_congr {f g : Nat → Int} : ∀ {l : List Nat}, (∀ k ∈ l, f k = g k) → sm f l = sm g l
  | [], _ => rfl
  | k :: l, h => by rw [sm_cons, sm_cons, h k List.mem_cons_self, sm_congr fun j hj => h j (List.mem_cons_of_mem _ hj)]
theorem sm_filter (f : Nat → Int) (p : Nat → Bool) : ∀ l : List Nat, sm f (l.filter p) = sm (fun k => if p k = true then f k else 0) l
  | [] => rfl
  | k :: l => by
    rw [List.filter_cons, sm_cons]
    by_cases h : p k = true
    · rw [if_pos h, if_pos h, sm_cons, sm_filter f p l]
    · rw [if_neg h, if_neg h, sm_filter f p l]; omega
theorem sm_split (f : Nat → Int) (p : Nat → Bool) (l : List Nat) : sm f l = sm f (l.filter p) + sm f (l.filter fun k => !p k) := by
  rw [sm_filter, sm_filter, ← sm_add]
  refine sm_congr fun k _ => ?_
  cases p k <;> simp
theorem fin_y {k : Nat} (h : 0 < c k) : fin c k = true := decide_eq_true h
theorem insI_cons (x y : Nat) (r : List Nat) : insI w c x (y :: r) = if w x * c y ≤ w y * c x then y :: insI w c x r else x :: y :: r := rfl
/-- free ones ahead -/
theorem run_free : ∀ (F : List Nat) (t left : Int), 0 ≤ left → (∀ k ∈ F, c k = 0) → runW w c (t, 1, left) F = (t + sm w F, 1, left)
  | [], t, left, _, _ => by rw [run_nil, sm_nil, Int.add_zero]
  | k :: F, t, left, h, hF => by
    have h0 := hF k List.mem_cons_self
    rw [run_cons, sm_cons]
    have : stp w c (t, 1, left) k = (t + w k, 1, left) := by
      unfold stp
      dsimp only
      rw [h0, if_pos h, Int.mul_one, Int.sub_zero]
    rw [this, run_free F (t + w k) left h fun j hj => hF j (List.mem_cons_of_mem _ hj), Int.add_assoc]
theorem stp_left (s : Int × Int × Int) (k : Nat) (h : 0 ≤ s.2.2) : 0 ≤ (stp w c s k).2.2 := by
  unfold stp
  split
  · dsimp only; omega
  · split
    · exact Int.le_refl _
    · exact h
theorem run_skip : ∀ (R : List Nat) (s : Int × Int × Int), 0 ≤ s.2.2 → (∀ k ∈ R, 0 < c k ∨ (w k = 0 ∧ c k = 0)) → runW w c s R = runW w c s (R.filter (fin c))
  | [], _, _, _ => rfl
  | k :: R, s, h, hR => by
    have ih := run_skip R (stp w c s k) (stp_left w c s k h) fun j hj => hR j (List.mem_cons_of_mem _ hj)
    rw [List.filter_cons]
    by_cases hk : 0 < c k
    · rw [if_pos (fin_y c hk), run_cons, run_cons, ih]
    · obtain ⟨h1, h2⟩ : w k = 0 ∧ c k = 0 := (hR k List.mem_cons_self).resolve_left hk
      rw [if_neg (by unfold fin; simp [hk]), run_cons]
      have : stp w c s k = s := by
        unfold stp
        rw [h2, if_pos h, h1, Int.zero_mul, Int.add_zero, Int.sub_zero]
      rw [this]
      exact run_skip R s h fun j hj => hR j (List.mem_cons_of_mem _ hj)
/-- what stands where: free ones ahead, the others by their share -/
structure RI (l R : List Nat) : Prop where
  ex : ∃ F T, R = F ++ T ∧ (∀ k ∈ F, c k = 0) ∧ ∀ k ∈ T, 0 < c k ∨ (w k = 0 ∧ c k = 0)
  fl : R.filter (fin c) = (l.filter (fin c)).foldl (fun R x => insI w c x R) []
  pm : R.Perm l
theorem insI_pass {x : Nat} : ∀ (F T : List Nat), (∀ y ∈ F, w x * c y ≤ w y * c x) → insI w c x (F ++ T) = F ++ insI w c x T
  | [], _, _ => rfl
  | y :: F, T, h => by
    show (if w x * c y ≤ w y * c x then y :: insI w c x (F ++ T) else x :: y :: (F ++ T)) = _
    rw [if_pos (h y List.mem_cons_self), insI_pass F T fun z hz => h z (List.mem_cons_of_mem _ hz)]
    rfl
theorem insI_filter {x : Nat} (hw : ∀ k, 0 ≤ w k) (hx : 0 < c x) : ∀ R : List Nat, (∀ k ∈ R, 0 ≤ c k) → (insI w c x R).filter (fin c) = insI w c x (R.filter (fin c))
  | [], _ => by
    show List.filter (fin c) [x] = [x]
    rw [List.filter_cons_of_pos (fin_y c hx)]
    rfl
  | y :: r, h => by
    have ih := insI_filter hw hx r fun k hk => h k (List.mem_cons_of_mem _ hk)
    by_cases hy : 0 < c y
    · rw [List.filter_cons_of_pos (fin_y c hy)]
      rw [insI_cons, insI_cons]
      split
      · rw [List.filter_cons_of_pos (fin_y c hy), ih]
      · rw [List.filter_cons_of_pos (fin_y c hx), List.filter_cons_of_pos (fin_y c hy)]
    · have h0 : c y = 0 := by have := h y List.mem_cons_self; omega
      have hf : ¬ fin c y = true := by unfold fin; simp [hy]
      rw [List.filter_cons_of_neg hf, insI_cons, if_pos (by rw [h0, Int.mul_zero]; exact Int.mul_nonneg (hw y) (Int.le_of_lt hx)), List.filter_cons_of_neg hf, ih]
theorem insI_free {x : Nat} (hw : ∀ k, 0 ≤ w k) (hc : ∀ k, 0 ≤ c k) (h0 : c x = 0) (hx : 0 < w x) : ∀ T : List Nat, (∀ k ∈ T, 0 < c k ∨ (w k = 0 ∧ c k = 0)) → ∃ G T', insI w c x T = G ++ T' ∧ (∀ k ∈ G, c k = 0) ∧ (∀ k ∈ T', 0 < c k ∨ (w k = 0 ∧ c k = 0)) ∧ (insI w c x T).filter (fin c) = T.filter (fin c)
  | [], _ => by
    have fx : ¬ fin c x = true := by unfold fin; simp [h0]
    refine ⟨[x], [], rfl, fun k hk => by rw [List.mem_singleton.mp hk]; exact h0, fun k hk => (by cases hk), ?_⟩
    show List.filter (fin c) [x] = []
    rw [List.filter_cons_of_neg fx]
    rfl
  | y :: r, h => by
    have fx : ¬ fin c x = true := by unfold fin; simp [h0]
    by_cases hy : 0 < c y
    · have e : insI w c x (y :: r) = x :: y :: r := by
        unfold insI
        rw [if_neg (by
          rw [h0, Int.mul_zero]
          have := Int.mul_pos hx hy
          omega)]
      refine ⟨[x], y :: r, by rw [e]; rfl, fun k hk => by rw [List.mem_singleton.mp hk]; exact h0, h, ?_⟩
      rw [e, List.filter_cons_of_neg fx]
    · obtain ⟨h1, h2⟩ := (h y List.mem_cons_self).resolve_left hy
      have e : insI w c x (y :: r) = y :: insI w c x r := by
        show (if w x * c y ≤ w y * c x then y :: insI w c x r else x :: y :: r) = _
        rw [if_pos (by rw [h2, h0, Int.mul_zero, Int.mul_zero]; exact Int.le_refl _)]
      obtain ⟨G, T', e1, g1, g2, g3⟩ := insI_free hw hc h0 hx r fun k hk => h k (List.mem_cons_of_mem _ hk)
      refine ⟨y :: G, T', by rw [e, e1]; rfl, fun k hk => ?_, g2, ?_⟩
      · rcases List.mem_cons.mp hk with z | z
        · rw [z]; exact h2
        · exact g1 k z
      · have fy : ¬ fin c y = true := by unfold fin; simp [h2]
        rw [e, List.filter_cons_of_neg fy, List.filter_cons_of_neg fy, g3]
theorem ri_step (hw : ∀ k, 0 ≤ w k) (hc : ∀ k, 0 ≤ c k) {l R : List Nat} (h : RI w c l R) (x : Nat) : RI w c (l ++ [x]) (insI w c x R) := by
  obtain ⟨F, T, e, hF, hT⟩ := h.ex
  have pm : (insI w c x R).Perm (l ++ [x]) := (insI_perm w c x R).trans ((h.pm.cons x).trans (List.perm_append_singleton x l).symm)
  by_cases hx : 0 < c x
  · refine ⟨?_, ?_, pm⟩
    · refine ⟨F, insI w c x T, ?_, hF, fun k hk => ?_⟩
      · rw [e]
        exact insI_pass w c F T fun y hy => by
          rw [hF y hy, Int.mul_zero]
          exact Int.mul_nonneg (hw y) (Int.le_of_lt hx)
      · rcases (insI_mem w c).mp hk with z | z
        · rw [z]; exact .inl hx
        · exact hT k z
    · rw [insI_filter w c hw hx R fun k _ => hc k, h.fl, List.filter_append, List.filter_cons_of_pos (fin_y c hx), List.foldl_append]
      rfl
  · have h0 : c x = 0 := by have := hc x; omega
    have fx : ¬ fin c x = true := by unfold fin; simp [h0]
    have hfl : (l ++ [x]).filter (fin c) = l.filter (fin c) := by
      rw [List.filter_append, List.filter_cons_of_neg fx]
      simp
    have pF : ∀ y ∈ F, w x * c y ≤ w y * c x := fun y hy => by rw [hF y hy, h0, Int.mul_zero, Int.mul_zero]; exact Int.le_refl _
    by_cases hp : 0 < w x
    · obtain ⟨G, T', e1, g1, g2, g3⟩ := insI_free w c hw hc h0 hp T hT
      refine ⟨⟨F ++ G, T', ?_, fun k hk => ?_, g2⟩, ?_, pm⟩
      · rw [e, insI_pass w c F T pF, e1, List.append_assoc]
      · rcases List.mem_append.mp hk with z | z
        · exact hF k z
        · exact g1 k z
      · rw [hfl, ← h.fl, e, insI_pass w c F T pF, List.filter_append, g3, List.filter_append]
    · have w0 : w x = 0 := by have := hw x; omega
      have pA : ∀ y ∈ R, w x * c y ≤ w y * c x := fun y _ => by rw [h0, w0, Int.mul_zero, Int.zero_mul]; exact Int.le_refl _
      have ea : insI w c x R = R ++ [x] := by
        have := insI_pass w c R [] pA
        rw [List.append_nil] at this
        exact this
      refine ⟨⟨F, T ++ [x], by rw [ea, e, List.append_assoc], hF, fun k hk => ?_⟩, ?_, pm⟩
      · rcases List.mem_append.mp hk with z | z
        · exact hT k z
        · rw [List.mem_singleton.mp z]; exact .inr ⟨w0, h0⟩
      · rw [hfl, ← h.fl, ea, List.filter_append, List.filter_cons_of_neg fx]
        simp
theorem ri_all (hw : ∀ k, 0 ≤ w k) (hc : ∀ k, 0 ≤ c k) : ∀ (l pre R : List Nat), RI w c pre R → RI w c (pre ++ l) (l.foldl (fun R x => insI w c x R) R)
  | [], pre, R, h => by rw [List.append_nil]; exact h
  | x :: l, pre, R, h => by
    have := ri_all hw hc l (pre ++ [x]) _ (ri_step w c hw hc h x)
    rw [List.append_assoc] at this
    exact this
theorem ri_ok (hw : ∀ k, 0 ≤ w k) (hc : ∀ k, 0 ≤ c k) (l : List Nat) : RI w c l (srtR w c l) := ri_all w c hw hc l [] [] ⟨⟨[], [], rfl, fun k hk => (by cases hk), fun k hk => (by cases hk)⟩, rfl, List.Perm.refl _⟩
theorem run_srt (hw : ∀ k, 0 ≤ w k) (hc : ∀ k, 0 ≤ c k) (l : List Nat) {b : Int} (hb : 0 ≤ b) : runW w c (0, 1, b) (srtR w c l) = runW w c (sm w (l.filter fun k => decide (c k = 0)), 1, b) (srtR w c (l.filter (fin c))) := by
  have h := ri_ok w c hw hc l
  obtain ⟨F, T, e, hF, hT⟩ := h.ex
  have hfl : T.filter (fin c) = srtR w c (l.filter (fin c)) := by
    have := h.fl
    rw [e, List.filter_append] at this
    have hF0 : F.filter (fin c) = [] := List.filter_eq_nil_iff.mpr fun k hk => by unfold fin; simp [hF k hk]
    rw [hF0, List.nil_append] at this
    exact this
  rw [e, run_app, run_free w c F 0 b hb hF, run_skip w c T _ hb hT, hfl, Int.zero_add]
  have : sm w F = sm w (l.filter fun k => decide (c k = 0)) := by
    rw [← sm_perm w (h.pm.filter fun k => decide (c k = 0)), e, List.filter_append, sm_app]
    have h1 : F.filter (fun k => decide (c k = 0)) = F := List.filter_eq_self.mpr fun k hk => decide_eq_true (hF k hk)
    have h2 : sm w (T.filter fun k => decide (c k = 0)) = 0 := sm_zero w _ fun k hk => by
      obtain ⟨a, b⟩ := List.mem_filter.mp hk
      have b := of_decide_eq_true b
      rcases hT k a with z | z
      · omega
      · exact z.1
    rw [h1, h2, Int.add_zero]
  rw [this]
end
section
variable (w c : Nat → Int)
theorem run_zero : ∀ (P : List Nat) (a b : Int), (∀ k ∈ P, 0 < c k) → runW w c (a, b, 0) P = (a, b, 0)
  | [], _, _, _ => rfl
  | k :: P, a, b, h => by
    have hk := h k List.mem_cons_self
    have : stp w c (a, b, 0) k = (a, b, 0) := by
      unfold stp
      dsimp only
      rw [if_neg (by omega), if_neg (Int.lt_irrefl 0)]
    rw [run_cons, this, run_zero P a b fun j hj => h j (List.mem_cons_of_mem _ hj)]
/-- where a runW ends -/
theorem run_fin : ∀ (P : List Nat) (t left : Int), 0 ≤ left → (∀ k ∈ P, 0 < c k) → ∃ P1 P2, P = P1 ++ P2 ∧ sm c P1 ≤ left ∧
    ((P2 = [] ∧ runW w c (t, 1, left) P = (t + sm w P1, 1, left - sm c P1)) ∨
      ∃ x P3, P2 = x :: P3 ∧ left - sm c P1 < c x ∧ ((0 < left - sm c P1 ∧ runW w c (t, 1, left) P = ((t + sm w P1) * c x + w x * (left - sm c P1), c x, 0)) ∨ (left - sm c P1 = 0 ∧ runW w c (t, 1, left) P = (t + sm w P1, 1, 0))))
  | [], t, left, h, _ => ⟨[], [], rfl, by rw [sm_nil]; exact h, .inl ⟨rfl, by rw [run_nil, sm_nil, sm_nil, Int.add_zero, Int.sub_zero]⟩⟩
  | k :: P, t, left, h, hP => by
    have hk := hP k List.mem_cons_self
    have hP' : ∀ j ∈ P, 0 < c j := fun j hj => hP j (List.mem_cons_of_mem _ hj)
    by_cases hc : c k ≤ left
    · obtain ⟨P1, P2, e, h1, h2⟩ := run_fin P (t + w k) (left - c k) (by omega) hP'
      have hs : stp w c (t, 1, left) k = (t + w k, 1, left - c k) := by
        unfold stp
        dsimp only
        rw [if_pos hc, Int.mul_one]
      have e1 : t + w k + sm w P1 = t + sm w (k :: P1) := by rw [sm_cons, Int.add_assoc]
      have e2 : left - c k - sm c P1 = left - sm c (k :: P1) := by rw [sm_cons]; omega
      refine ⟨k :: P1, P2, by rw [e]; rfl, by rw [sm_cons]; omega, ?_⟩
      rw [run_cons, hs, ← e1, ← e2]
      exact h2
    · refine ⟨[], k :: P, rfl, by rw [sm_nil]; exact h, .inr ⟨k, P, rfl, by rw [sm_nil]; omega, ?_⟩⟩
      rw [sm_nil, sm_nil, Int.sub_zero, Int.add_zero]
      by_cases hl : 0 < left
      · refine .inl ⟨hl, ?_⟩
        have hs : stp w c (t, 1, left) k = (t * c k + w k * left, c k, 0) := by
          unfold stp
          dsimp only
          rw [if_neg hc, if_pos hl, Int.mul_one, Int.one_mul]
        rw [run_cons, hs, run_zero w c P _ _ hP']
      · have : left = 0 := by omega
        subst this
        exact .inr ⟨rfl, run_zero w c (k :: P) _ _ hP⟩
theorem run_ub {P : List Nat} {t left : Int} (hw : ∀ k, 0 ≤ w k) (h : 0 ≤ left) (hP : ∀ k ∈ P, 0 < c k) (hp : P.Pairwise (prec w c)) (χ : Nat → Bool) (hs : sm c (P.filter χ) ≤ left) :
    0 < (runW w c (t, 1, left) P).2.1 ∧ (t + sm w (P.filter χ)) * (runW w c (t, 1, left) P).2.1 ≤ (runW w c (t, 1, left) P).1 := by
  obtain ⟨P1, P2, e, h1, h2⟩ := run_fin w c P t left h hP
  have fle : ∀ l, sm w (l.filter χ) ≤ sm w l := fun l => by
    rw [sm_filter]
    exact sm_le _ _ l fun k _ => by have := hw k; split <;> omega
  rcases h2 with ⟨e2, e3⟩ | ⟨x, P3, e2, h3, h4⟩
  · rw [e3]
    have hl := fle P
    rw [e2, List.append_nil] at e
    dsimp only
    rw [← e]
    exact ⟨by omega, by omega⟩
  · have hx : 0 < c x := hP x (by rw [e, e2]; simp)
    have hpw := hp
    rw [e, List.pairwise_append] at hpw
    have p1 : sm w (P1.filter χ) * c x ≤ sm w P1 * c x - (sm c P1 - sm c (P1.filter χ)) * w x := by
      have a : sm (fun k => (if χ k = true then w k else 0) * c x) P1 ≤ sm (fun k => w k * c x + ((if χ k = true then c k else 0) * w x + c k * (-w x))) P1 := sm_le _ _ P1 fun k hk => by
        have pr := prec_le w c (hpw.2.2 k hk x (by rw [e2]; simp))
        have cm : c k * w x = w x * c k := Int.mul_comm ..
        have ng : c k * (-w x) = -(c k * w x) := Int.mul_neg ..
        by_cases hc : χ k = true
        · rw [if_pos hc, if_pos hc, ng]; omega
        · rw [if_neg hc, if_neg hc, ng, Int.zero_mul, Int.zero_mul]; omega
      rw [sm_mul, ← sm_filter, sm_add, sm_add, sm_mul, sm_mul, sm_mul, ← sm_filter] at a
      have e5 : (sm c P1 - sm c (P1.filter χ)) * w x = sm c P1 * w x - sm c (P1.filter χ) * w x := Int.sub_mul ..
      have e6 : sm c P1 * (-w x) = -(sm c P1 * w x) := Int.mul_neg ..
      omega
    have p2 : sm w (P2.filter χ) * c x ≤ sm c (P2.filter χ) * w x := by
      have a : sm (fun k => (if χ k = true then w k else 0) * c x) P2 ≤ sm (fun k => (if χ k = true then c k else 0) * w x) P2 := sm_le _ _ P2 fun k hk => by
        by_cases hc : χ k = true
        · rw [if_pos hc, if_pos hc]
          rw [e2] at hk
          have cm : c k * w x = w x * c k := Int.mul_comm ..
          rcases List.mem_cons.mp hk with z | z
          · rw [z, Int.mul_comm]; exact Int.le_refl _
          · have := hpw.2.1
            rw [e2] at this
            have := prec_le w c ((List.pairwise_cons.mp this).1 k z)
            omega
        · rw [if_neg hc, if_neg hc, Int.zero_mul, Int.zero_mul]; exact Int.le_refl _
      rw [sm_mul, ← sm_filter, sm_mul, ← sm_filter] at a
      exact a
    have hsp : sm w (P.filter χ) = sm w (P1.filter χ) + sm w (P2.filter χ) := by rw [e, List.filter_append, sm_app]
    have hsc : sm c (P.filter χ) = sm c (P1.filter χ) + sm c (P2.filter χ) := by rw [e, List.filter_append, sm_app]
    have main : sm w (P.filter χ) * c x ≤ sm w P1 * c x + w x * (left - sm c P1) := by
      have q : (sm c (P1.filter χ) + sm c (P2.filter χ) - sm c P1) * w x ≤ (left - sm c P1) * w x := Int.mul_le_mul_of_nonneg_right (by omega) (hw x)
      have q1 : (sm c (P1.filter χ) + sm c (P2.filter χ) - sm c P1) * w x = sm c (P1.filter χ) * w x + sm c (P2.filter χ) * w x - sm c P1 * w x := by rw [Int.sub_mul, Int.add_mul]
      have q2 : (left - sm c P1) * w x = w x * (left - sm c P1) := Int.mul_comm ..
      have q3 : (sm c P1 - sm c (P1.filter χ)) * w x = sm c P1 * w x - sm c (P1.filter χ) * w x := Int.sub_mul ..
      have q4 : sm w (P.filter χ) * c x = sm w (P1.filter χ) * c x + sm w (P2.filter χ) * c x := by rw [hsp, Int.add_mul]
      omega
    rcases h4 with ⟨h5, e3⟩ | ⟨h5, e3⟩
    · rw [e3]
      dsimp only
      refine ⟨hx, ?_⟩
      have q1 : (t + sm w (P.filter χ)) * c x = t * c x + sm w (P.filter χ) * c x := Int.add_mul ..
      have q2 : (t + sm w P1) * c x = t * c x + sm w P1 * c x := Int.add_mul ..
      omega
    · rw [e3]
      dsimp only
      refine ⟨by omega, ?_⟩
      rw [h5, Int.mul_zero, Int.add_zero] at main
      have := Int.le_of_mul_le_mul_right main hx
      omega
theorem run_lb {P : List Nat} {t left M : Int} (hw : ∀ k, 0 ≤ w k) (hM : ∀ k ∈ P, w k ≤ M) (hM0 : 0 ≤ M) (h : 0 ≤ left) (hP : ∀ k ∈ P, 0 < c k) :
    ∃ P1 P2, P = P1 ++ P2 ∧ sm c P1 ≤ left ∧ (runW w c (t, 1, left) P).1 ≤ (t + sm w P1 + M) * (runW w c (t, 1, left) P).2.1 := by
  obtain ⟨P1, P2, e, h1, h2⟩ := run_fin w c P t left h hP
  refine ⟨P1, P2, e, h1, ?_⟩
  rcases h2 with ⟨_, e3⟩ | ⟨x, P3, e2, h3, ⟨h5, e3⟩ | ⟨h5, e3⟩⟩
  · rw [e3]; dsimp only; omega
  · rw [e3]
    dsimp only
    have hx : 0 < c x := hP x (by rw [e, e2]; simp)
    have hm := hM x (by rw [e, e2]; simp)
    have a : w x * (left - sm c P1) ≤ w x * c x := Int.mul_le_mul_of_nonneg_left (by omega) (hw x)
    have b : w x * c x ≤ M * c x := Int.mul_le_mul_of_nonneg_right hm (by omega)
    have q : (t + sm w P1 + M) * c x = (t + sm w P1) * c x + M * c x := Int.add_mul ..
    omega
  · rw [e3]; dsimp only; omega
end
def lowF (a b : Int) : Int × Int := (a / Int.gcd a b, b / Int.gcd a b)
theorem low_parts {a b : Int} (ha : 0 ≤ a) (hb : 0 < b) : ∃ g : Nat, 0 < g ∧ (g : Int) ≤ b ∧ a = (lowF a b).1 * g ∧ b = (lowF a b).2 * g ∧ 0 ≤ (lowF a b).1 ∧ 0 < (lowF a b).2 ∧ Int.gcd (lowF a b).1 (lowF a b).2 = 1 := by
  have hg : 0 < Int.gcd a b := Int.gcd_pos_of_ne_zero_right a (by omega)
  have e1 : a = (lowF a b).1 * (Int.gcd a b : Int) := (Int.ediv_mul_cancel (Int.gcd_dvd_left ..)).symm
  have e2 : b = (lowF a b).2 * (Int.gcd a b : Int) := (Int.ediv_mul_cancel (Int.gcd_dvd_right ..)).symm
  have hg' : (0 : Int) < (Int.gcd a b : Int) := by omega
  refine ⟨Int.gcd a b, hg, Int.le_of_dvd hb (Int.gcd_dvd_right ..), e1, e2, Int.ediv_nonneg ha (by omega), ?_, ?_⟩
  · exact Int.ediv_pos_of_pos_of_dvd hb (by omega) (Int.gcd_dvd_right ..)
  · exact Int.gcd_ediv_gcd_ediv_gcd hg
theorem low_uniq {x y u v : Int} (hx : 0 ≤ x) (hy : 0 < y) (hu : 0 ≤ u) (hv : 0 < v) (g1 : Int.gcd x y = 1) (g2 : Int.gcd u v = 1) (e : x * v = u * y) : x = u ∧ y = v := by
  obtain ⟨x, rfl⟩ := Int.eq_ofNat_of_zero_le hx
  obtain ⟨y, rfl⟩ := Int.eq_ofNat_of_zero_le (Int.le_of_lt hy)
  obtain ⟨u, rfl⟩ := Int.eq_ofNat_of_zero_le hu
  obtain ⟨v, rfl⟩ := Int.eq_ofNat_of_zero_le (Int.le_of_lt hv)
  rw [Int.gcd_natCast_natCast] at g1 g2
  have e : x * v = u * y := by exact_mod_cast e
  have d1 : y ∣ v := by
    have : y ∣ x * v := by rw [e]; exact Nat.dvd_mul_left ..
    exact (Nat.Coprime.symm g1).dvd_of_dvd_mul_left this
  have d2 : v ∣ y := by
    have : v ∣ u * y := by rw [← e]; exact Nat.dvd_mul_left ..
    exact (Nat.Coprime.symm g2).dvd_of_dvd_mul_left this
  have ey : y = v := Nat.dvd_antisymm d1 d2
  subst ey
  have hy : 0 < y := by omega
  have := Nat.eq_of_mul_eq_mul_right hy e
  exact ⟨by rw [this], rfl⟩
theorem low_cross {a b d e : Int} (ha : 0 ≤ a) (hb : 0 < b) (hd : 0 ≤ d) (he : 0 < e) (h : a * e = d * b) : lowF a b = lowF d e := by
  obtain ⟨g, g0, _, a1, a2, a3, a4, a5⟩ := low_parts ha hb
  obtain ⟨k, k0, _, b1, b2, b3, b4, b5⟩ := low_parts hd he
  have q : (lowF a b).1 * (lowF d e).2 = (lowF d e).1 * (lowF a b).2 := by
    have hgk : (0 : Int) < (g : Int) * (k : Int) := Int.mul_pos (by omega) (by omega)
    refine Int.eq_of_mul_eq_mul_right (Int.ne_of_gt hgk) ?_
    have p1 : (lowF a b).1 * (lowF d e).2 * ((g : Int) * (k : Int)) = a * e := by
      conv => rhs; rw [a1, b2]
      generalize (lowF a b).1 = x
      generalize (lowF d e).2 = y
      rw [Int.mul_assoc, Int.mul_assoc, Int.mul_left_comm y]
    have p2 : (lowF d e).1 * (lowF a b).2 * ((g : Int) * (k : Int)) = d * b := by
      conv => rhs; rw [b1, a2]
      generalize (lowF d e).1 = x
      generalize (lowF a b).2 = y
      ac_rfl
    rw [p1, p2, h]
  obtain ⟨z1, z2⟩ := low_uniq a3 a4 b3 b4 a5 b5 q
  exact Prod.ext z1 z2
theorem low_one {a : Int} (ha : 0 ≤ a) : lowF a 1 = (a, 1) := by
  unfold lowF
  rw [show Int.gcd a 1 = 1 from Int.gcd_one_right a]
  simp
theorem low_low {a b : Int} (ha : 0 ≤ a) (hb : 0 < b) : lowF (lowF a b).1 (lowF a b).2 = lowF a b := by
  obtain ⟨g, g0, _, a1, a2, a3, a4, a5⟩ := low_parts ha hb
  refine low_cross a3 a4 ha hb ?_
  generalize (lowF a b).1 = x at *
  generalize (lowF a b).2 = y at *
  rw [a1, a2]
  ac_rfl
/-- one more turn of the law's -/
theorem low_step (w c : Nat → Int) {k : Nat} {a b left : Int} (hw : ∀ k, 0 ≤ w k) (hk : 0 < c k) (ha : 0 ≤ a) (hb : 0 < b) (hl : 0 ≤ left) :
    lowF ((lowF a b).1 * c k + w k * (if c k < left then c k else left) * (lowF a b).2) ((lowF a b).2 * c k) = lowF (stp w c (a, b, left) k).1 (stp w c (a, b, left) k).2.1 ∧ 0 ≤ (stp w c (a, b, left) k).1 ∧ 0 < (stp w c (a, b, left) k).2.1 ∧ (stp w c (a, b, left) k).2.2 = left - (if c k < left then c k else left) ∧ 0 ≤ (stp w c (a, b, left) k).2.2 := by
  obtain ⟨g, g0, _, a1, a2, a3, a4, a5⟩ := low_parts ha hb
  have hwk := hw k
  generalize lowF a b = v at *
  obtain ⟨x, y⟩ := v
  dsimp only at *
  have hyc : 0 < y * c k := Int.mul_pos a4 hk
  have hg : (0 : Int) < (g : Int) := by omega
  unfold stp
  dsimp only
  by_cases h1 : c k ≤ left
  · have hm : (if c k < left then c k else left) = c k := by split <;> omega
    rw [if_pos h1, hm]
    dsimp only
    have wb : 0 ≤ w k * b := Int.mul_nonneg hwk (Int.le_of_lt hb)
    have n1 : 0 ≤ x * c k := Int.mul_nonneg a3 (Int.le_of_lt hk)
    have n2 : 0 ≤ w k * c k * y := Int.mul_nonneg (Int.mul_nonneg hwk (Int.le_of_lt hk)) (Int.le_of_lt a4)
    refine ⟨low_cross (by omega) hyc (by omega) hb ?_, by omega, hb, rfl, by omega⟩
    -- (x c + w c y) b = (a + w b) (y c)
    rw [a1, a2]
    generalize (g : Int) = g'
    generalize c k = z
    generalize w k = w'
    have l1 : (x * z + w' * z * y) * (y * g') = x * z * (y * g') + w' * z * y * (y * g') := Int.add_mul ..
    have l2 : (x * g' + w' * (y * g')) * (y * z) = x * g' * (y * z) + w' * (y * g') * (y * z) := Int.add_mul ..
    have l3 : x * z * (y * g') = x * g' * (y * z) := by ac_rfl
    have l4 : w' * z * y * (y * g') = w' * (y * g') * (y * z) := by ac_rfl
    omega
  · have hm : (if c k < left then c k else left) = left := by split <;> omega
    rw [if_neg h1, hm]
    by_cases h2 : 0 < left
    · rw [if_pos h2]
      dsimp only
      have n1 : 0 ≤ x * c k := Int.mul_nonneg a3 (Int.le_of_lt hk)
      have n2 : 0 ≤ w k * left * y := Int.mul_nonneg (Int.mul_nonneg hwk hl) (Int.le_of_lt a4)
      have n3 : 0 ≤ a * c k := Int.mul_nonneg ha (Int.le_of_lt hk)
      have n4 : 0 ≤ w k * left * b := Int.mul_nonneg (Int.mul_nonneg hwk hl) (Int.le_of_lt hb)
      have n5 : 0 < b * c k := Int.mul_pos hb hk
      refine ⟨low_cross (by omega) hyc (by omega) n5 ?_, by omega, n5, by omega, Int.le_refl _⟩
      rw [a1, a2]
      generalize (g : Int) = g'
      generalize c k = z
      generalize w k * left = p
      have l1 : (x * z + p * y) * (y * g' * z) = x * z * (y * g' * z) + p * y * (y * g' * z) := Int.add_mul ..
      have l2 : (x * g' * z + p * (y * g')) * (y * z) = x * g' * z * (y * z) + p * (y * g') * (y * z) := Int.add_mul ..
      have l3 : x * z * (y * g' * z) = x * g' * z * (y * z) := by ac_rfl
      have l4 : p * y * (y * g' * z) = p * (y * g') * (y * z) := by ac_rfl
      omega
    · have h0 : left = 0 := by omega
      rw [if_neg h2]
      dsimp only
      subst h0
      rw [Int.mul_zero, Int.zero_mul, Int.add_zero]
      have n1 : 0 ≤ x * c k := Int.mul_nonneg a3 (Int.le_of_lt hk)
      refine ⟨low_cross n1 hyc ha hb ?_, ha, hb, by omega, by omega⟩
      rw [a1, a2]
      ac_rfl
def ltL : List Nat → List Nat → Bool
  | [], [] => false
  | [], _ :: _ => true
  | _ :: _, [] => false
  | a :: l, b :: r => if a < b then true else if a = b then ltL l r else false
theorem ltL_irr : ∀ l, ltL l l = false
  | [] => rfl
  | a :: l => by simp [ltL, ltL_irr l]
theorem ltL_tr : ∀ a b c : List Nat, ltL a b = true → ltL b c = true → ltL a c = true
  | [], [], _, h, _ => by simp [ltL] at h
  | [], _ :: _, [], _, h => by simp [ltL] at h
  | [], _ :: _, _ :: _, _, _ => rfl
  | _ :: _, [], _, h, _ => by simp [ltL] at h
  | _ :: _, _ :: _, [], _, h => by simp [ltL] at h
  | a :: l, b :: r, c :: s, h1, h2 => by
    simp only [ltL] at *
    by_cases hab : a < b
    · by_cases hbc : b < c
      · rw [if_pos (by omega)]
      · rw [if_neg hbc] at h2
        by_cases e : b = c
        · rw [if_pos (by omega)]
        · rw [if_neg e] at h2; cases h2
    · rw [if_neg hab] at h1
      by_cases e : a = b
      · rw [if_pos e] at h1; subst e
        by_cases hbc : a < c
        · rw [if_pos hbc]
        · rw [if_neg hbc] at h2 ⊢
          by_cases e : a = c
          · rw [if_pos e] at h2 ⊢; exact ltL_tr l r s h1 h2
          · rw [if_neg e] at h2; cases h2
      · rw [if_neg e] at h1; cases h1
theorem ltL_as (a b : List Nat) (h1 : ltL a b = true) (h2 : ltL b a = true) : False := by
  have := ltL_tr a b a h1 h2; rw [ltL_irr] at this; cases this
theorem ltL_tot : ∀ a b : List Nat, ltL a b = true ∨ a = b ∨ ltL b a = true
  | [], [] => Or.inr (Or.inl rfl)
  | [], _ :: _ => Or.inl rfl
  | _ :: _, [] => Or.inr (Or.inr rfl)
  | a :: l, b :: r => by
    simp only [ltL]
    rcases Nat.lt_trichotomy a b with h | h | h
    · simp [h]
    · subst h; simp; exact ltL_tot l r
    · simp [h]
theorem ltL_app (x : Nat) : ∀ a b : List Nat, a.length = b.length → ltL (a ++ [x]) (b ++ [x]) = ltL a b
  | [], [], _ => by simp [ltL]
  | [], _ :: _, h => by simp at h
  | _ :: _, [], h => by simp at h
  | a :: l, b :: r, h => by simp only [List.cons_append, ltL]; rw [ltL_app x l r (by simpa using h)]
theorem incr_sub : ∀ (l c : List Nat), l.Pairwise (· < ·) → c.Pairwise (· < ·) → (∀ a ∈ c, a ∈ l) → c.Sublist l
  | [], [], _, _, _ => List.Sublist.slnil
  | [], a :: c, _, _, h => by simpa using h a (by simp)
  | x :: l, [], _, _, _ => List.nil_sublist _
  | x :: l, a :: c, hl, hc, h => by
    rw [List.pairwise_cons] at hl hc
    by_cases e : a = x
    · subst e
      refine (incr_sub l c hl.2 hc.2 fun b hb => ?_).cons_cons a
      have h1 := hc.1 b hb
      rcases List.mem_cons.mp (h b (by simp [hb])) with e | hm
      · omega
      · exact hm
    · refine (incr_sub l (a :: c) hl.2 (List.pairwise_cons.mpr hc) fun b hb => ?_).cons x
      have ha : a ∈ l := by
        rcases List.mem_cons.mp (h a (by simp)) with e' | hm
        · exact (e e').elim
        · exact hm
      have := hl.1 a ha
      rcases List.mem_cons.mp (h b hb) with e' | hm
      · rcases List.mem_cons.mp hb with e2 | hb'
        · exact (e (e2.symm.trans e')).elim
        · have := hc.1 b hb'; omega
      · exact hm
theorem rg_incr (n : Nat) : (List.range n).Pairwise (· < ·) := List.pairwise_lt_range
theorem code_ex (p : Nat → Bool) : ∀ n, ∃ code, code < 2 ^ n ∧ ∀ k, k < n → code.testBit k = p k
  | 0 => ⟨0, by simp, fun k hk => by omega⟩
  | n + 1 => by
    obtain ⟨c, hc, h⟩ := code_ex p n
    by_cases hp : p n = true
    · refine ⟨2 ^ n + c, by rw [Nat.pow_succ]; omega, fun k hk => ?_⟩
      by_cases e : k = n
      · subst e; rw [Nat.testBit_two_pow_add_eq, Nat.testBit_lt_two_pow hc, hp]; rfl
      · rw [Nat.testBit_two_pow_add_gt (by omega), h k (by omega)]
    · refine ⟨c, by rw [Nat.pow_succ]; omega, fun k hk => ?_⟩
      by_cases e : k = n
      · subst e; rw [Nat.testBit_lt_two_pow hc]; simpa using hp
      · exact h k (by omega)
def bitsOf (n code : Nat) : List Nat := (List.range n).filter fun k => code.testBit k
theorem bits_incr (n code : Nat) : (bitsOf n code).Pairwise (· < ·) := (rg_incr n).sublist List.filter_sublist
theorem bits_lt (n code : Nat) : ∀ a ∈ bitsOf n code, a < n := fun a ha => by
  have := (List.mem_filter.mp ha).1; simpa using this
theorem bits_all (n : Nat) (c : List Nat) (hc : c.Pairwise (· < ·)) (hlt : ∀ a ∈ c, a < n) : ∃ code, code < 2 ^ n ∧ bitsOf n code = c := by
  obtain ⟨code, h1, h2⟩ := code_ex (fun k => decide (k ∈ c)) n
  refine ⟨code, h1, ?_⟩
  have hmem : ∀ a, a ∈ bitsOf n code ↔ a ∈ c := fun a => by
    unfold bitsOf; rw [List.mem_filter]
    constructor
    · rintro ⟨ha, hb⟩; rw [h2 a (by simpa using ha)] at hb; simpa using hb
    · intro ha; have hl := hlt a ha; exact ⟨by simpa using hl, by rw [h2 a hl]; simpa using ha⟩
  have s1 := incr_sub c (bitsOf n code) hc (bits_incr n code) fun a ha => (hmem a).mp ha
  have s2 := incr_sub _ c (bits_incr n code) hc fun a ha => (hmem a).mpr ha
  exact s1.eq_of_length_le s2.length_le
section
variable (w c : Nat → Int)
def grS (b : Int) (s : List Nat × Int) (k : Nat) : List Nat × Int := if s.2 + c k ≤ b then (s.1 ++ [k], s.2 + c k) else s
theorem gr_skip (b : Int) : ∀ (l ch : List Nat) (tot : Int), (∀ j ∈ l, b < tot + c j) → l.foldl (grS c b) (ch, tot) = (ch, tot)
  | [], _, _, _ => rfl
  | k :: l, ch, tot, h => by
    have hk := h k List.mem_cons_self
    have : grS c b (ch, tot) k = (ch, tot) := if_neg (by dsimp only; omega)
    rw [List.foldl_cons, this, gr_skip b l ch tot fun j hj => h j (List.mem_cons_of_mem _ hj)]
theorem gr_ok (b : Int) : ∀ (l ch : List Nat) (tot : Int), l.Pairwise (fun x y => c x ≤ c y) → ∃ t, t ≤ l.length ∧ l.foldl (grS c b) (ch, tot) = (ch ++ l.take t, tot + sm c (l.take t)) ∧ (tot ≤ b → tot + sm c (l.take t) ≤ b) ∧ (t < l.length → b < tot + sm c (l.take (t + 1)))
  | [], ch, tot, _ => ⟨0, Nat.le_refl _, by simp [sm_nil], by simp [sm_nil], by simp⟩
  | k :: l, ch, tot, h => by
    have h' := List.pairwise_cons.mp h
    by_cases hk : tot + c k ≤ b
    · obtain ⟨t, t1, t2, t3, t4⟩ := gr_ok b l (ch ++ [k]) (tot + c k) h'.2
      have hs : grS c b (ch, tot) k = (ch ++ [k], tot + c k) := if_pos hk
      refine ⟨t + 1, by simp; omega, ?_, fun _ => ?_, fun hl => ?_⟩
      · rw [List.foldl_cons, hs, t2, List.take_succ_cons, sm_cons, List.append_assoc, Int.add_assoc]
        rfl
      · have := t3 hk
        rw [List.take_succ_cons, sm_cons]; omega
      · have := t4 (by simpa using hl)
        rw [List.take_succ_cons, sm_cons]; omega
    · have hs : grS c b (ch, tot) k = (ch, tot) := if_neg hk
      refine ⟨0, Nat.zero_le _, ?_, fun z => ?_, fun _ => ?_⟩
      · rw [List.foldl_cons, hs, gr_skip c b l ch tot fun j hj => by have := h'.1 j hj; omega]
        simp [sm_nil]
      · simp [sm_nil]; exact z
      · simp [sm_cons, sm_nil]; omega
theorem sub_sum : ∀ {l s : List Nat}, l.Pairwise (fun x y => c x ≤ c y) → s.Sublist l → sm c (l.take s.length) ≤ sm c s
  | [], s, _, h => by cases h; exact Int.le_refl _
  | x :: l, [], _, _ => by simp [sm_nil]
  | x :: l, y :: s, hp, h => by
    have hp' := List.pairwise_cons.mp hp
    rw [List.length_cons, List.take_succ_cons, sm_cons, sm_cons]
    cases h with
    | cons _ h =>
      have ym : y ∈ l := h.subset List.mem_cons_self
      have := hp'.1 y ym
      have ih := sub_sum hp'.2 ((List.sublist_cons_self y s).trans h)
      omega
    | cons_cons _ h =>
      have ih := sub_sum hp'.2 h
      omega
theorem take_mono (hc : ∀ k, 0 ≤ c k) (l : List Nat) {i j : Nat} (h : i ≤ j) : sm c (l.take i) ≤ sm c (l.take j) := by
  have e : l.take j = l.take i ++ (l.take j).drop i := by
    have := (List.take_append_drop i (l.take j)).symm
    rw [List.take_take, Nat.min_eq_left h] at this
    exact this
  have := sm_nonneg c ((l.take j).drop i) fun k _ => hc k
  rw [e, sm_app]
  omega
theorem top_ok (hc : ∀ k, 0 ≤ c k) {l s : List Nat} {t : Nat} {b : Int} (hp : l.Pairwise (fun x y => c x ≤ c y)) (hn : l.Nodup) (hs : s.Nodup) (hm : ∀ k ∈ s, k ∈ l) (ht : t < l.length → b < sm c (l.take (t + 1))) (hb : sm c s ≤ b) : s.length ≤ t := by
  have pm : (l.filter fun k => decide (k ∈ s)).Perm s := (List.perm_ext_iff_of_nodup (hn.sublist List.filter_sublist) hs).mpr fun k => by
    rw [List.mem_filter, decide_eq_true_iff]
    exact ⟨fun h => h.2, fun h => ⟨hm k h, h⟩⟩
  have h1 := sub_sum c hp (List.filter_sublist (p := fun k => decide (k ∈ s)) (l := l))
  have h2 := sm_perm c pm
  have h3 := pm.length_eq
  have h4 := (List.filter_sublist (p := fun k => decide (k ∈ s)) (l := l)).length_le
  rw [h3] at h1 h4
  rcases Nat.lt_or_ge t s.length with z | z
  · have h5 := ht (by omega)
    have h6 := take_mono c hc l (i := t + 1) (j := s.length) (by omega)
    omega
  · exact z
def lt3 (s b : List Nat) : Bool := if sm w s = sm w b then (if s.length = b.length then ltL s b else decide (s.length < b.length)) else decide (sm w b < sm w s)
def mn3 (x : List Nat) (l : List (List Nat)) : List Nat := l.foldl (fun a y => if lt3 w y a = true then y else a) x
theorem mn3_ok : ∀ (l : List (List Nat)) (x : List Nat), mn3 w x l ∈ x :: l ∧ ∀ y ∈ x :: l, sm w y ≤ sm w (mn3 w x l)
  | [], x => ⟨List.mem_cons_self, fun y hy => by rw [List.mem_singleton.mp hy]; exact Int.le_refl _⟩
  | z :: l, x => by
    obtain ⟨h1, h2⟩ := mn3_ok l (if lt3 w z x = true then z else x)
    show mn3 w (if lt3 w z x = true then z else x) l ∈ _ ∧ ∀ y ∈ _, sm w y ≤ sm w (mn3 w (if lt3 w z x = true then z else x) l)
    have hs : sm w x ≤ sm w (if lt3 w z x = true then z else x) ∧ sm w z ≤ sm w (if lt3 w z x = true then z else x) := by
      by_cases h : lt3 w z x = true
      · rw [if_pos h]
        unfold lt3 at h
        split at h
        · omega
        · have := of_decide_eq_true h; omega
      · rw [if_neg h]
        unfold lt3 at h
        split at h
        · omega
        · rw [decide_eq_true_iff] at h; omega
    generalize hq : (if lt3 w z x = true then z else x) = q at *
    have hqm : q = z ∨ q = x := by rw [← hq]; split <;> simp
    refine ⟨?_, fun y hy => ?_⟩
    · rcases List.mem_cons.mp h1 with e | e
      · rw [e]; rcases hqm with e | e <;> rw [e] <;> simp
      · simp [e]
    · have hq' := h2 q List.mem_cons_self
      rcases List.mem_cons.mp hy with e | hy
      · rw [e]; omega
      · rcases List.mem_cons.mp hy with e | hy
        · rw [e]; omega
        · exact h2 y (List.mem_cons_of_mem _ hy)
def bwO (b : Int) (o : Option (List Nat)) (s : List Nat) : Option (List Nat) := if sm c s ≤ b then (match o with | none => some s | some a => if lt3 w s a = true then some s else some a) else o
theorem bwO_some (b : Int) : ∀ (L : List (List Nat)) (a : List Nat), L.foldl (bwO w c b) (some a) = some (mn3 w a (L.filter fun s => decide (sm c s ≤ b)))
  | [], _ => rfl
  | s :: L, a => by
    rw [List.foldl_cons, List.filter_cons]
    by_cases h : sm c s ≤ b
    · rw [if_pos (decide_eq_true h)]
      have e : bwO w c b (some a) s = some (if lt3 w s a = true then s else a) := by
        unfold bwO
        rw [if_pos h]
        dsimp only
        split <;> rfl
      rw [e, bwO_some b L]
      rfl
    · rw [if_neg (by simpa using h)]
      have e : bwO w c b (some a) s = some a := if_neg h
      rw [e, bwO_some b L]
theorem bwO_none (b : Int) : ∀ (L : List (List Nat)) (x : List Nat) (r : List (List Nat)), L.filter (fun s => decide (sm c s ≤ b)) = x :: r → L.foldl (bwO w c b) none = some (mn3 w x r)
  | [], _, _, h => by simp at h
  | s :: L, x, r, h => by
    rw [List.foldl_cons]
    rw [List.filter_cons] at h
    by_cases hs : sm c s ≤ b
    · rw [if_pos (decide_eq_true hs)] at h
      injection h with h1 h2
      have e : bwO w c b none s = some s := if_pos hs
      rw [e, bwO_some, h2, h1]
    · rw [if_neg (by simpa using hs)] at h
      have e : bwO w c b none s = none := if_neg hs
      rw [e]
      exact bwO_none b L x r h
end
section
variable {w c : Nat → Int} {m : Nat} {b : Int}
theorem run_left : ∀ (P : List Nat) (s : Int × Int × Int), 0 ≤ s.2.2 → 0 ≤ (runW w c s P).2.2
  | [], s, h => h
  | k :: P, s, h => run_left P _ (stp_left w c s k h)
theorem free_fin (hc : ∀ k, 0 ≤ c k) : (fun k => !fin c k) = fun k => decide (c k = 0) := by
  funext k
  have := hc k
  unfold fin
  by_cases h : 0 < c k
  · rw [decide_eq_true h, decide_eq_false (by omega)]; rfl
  · rw [decide_eq_false h, decide_eq_true (by omega)]; rfl
/-- a row of places, told by a test -/
theorem row_sum (f : Nat → Int) {s : List Nat} (hs : s.Pairwise (· < ·)) (hm : ∀ k ∈ s, k < m) : sm f s = sm f ((List.range m).filter fun k => decide (k ∈ s)) := by
  refine sm_perm f ((List.perm_ext_iff_of_nodup (hs.imp fun h => Nat.ne_of_lt h) ((List.nodup_range).sublist List.filter_sublist)).mpr fun k => ?_)
  rw [List.mem_filter, List.mem_range, decide_eq_true_iff]
  exact ⟨fun h => ⟨hm k h, h⟩, fun h => h.2⟩
theorem part_ok (hw : ∀ k, 0 ≤ w k) (hc : ∀ k, 0 ≤ c k) (hb : 0 ≤ b) {best M : Int} (hM : ∀ k, k < m → w k ≤ M) (hM0 : 0 ≤ M)
    (h1 : ∀ d, d < 2 ^ m → sm c (bitsOf m d) ≤ b → sm w (bitsOf m d) ≤ best) (h2 : ∃ d, d < 2 ^ m ∧ sm c (bitsOf m d) ≤ b ∧ sm w (bitsOf m d) = best) :
    0 < (runW w c (sm w ((List.range m).filter fun k => decide (c k = 0)), 1, b) (srtR w c ((List.range m).filter (fin c)))).2.1 ∧
    best * (runW w c (sm w ((List.range m).filter fun k => decide (c k = 0)), 1, b) (srtR w c ((List.range m).filter (fin c)))).2.1 ≤ (runW w c (sm w ((List.range m).filter fun k => decide (c k = 0)), 1, b) (srtR w c ((List.range m).filter (fin c)))).1 ∧
    (runW w c (sm w ((List.range m).filter fun k => decide (c k = 0)), 1, b) (srtR w c ((List.range m).filter (fin c)))).1 ≤ (best + M) * (runW w c (sm w ((List.range m).filter fun k => decide (c k = 0)), 1, b) (srtR w c ((List.range m).filter (fin c)))).2.1 := by
  have fp : ∀ x ∈ (List.range m).filter (fin c), 0 < c x := fun x hx => of_decide_eq_true (List.mem_filter.mp hx).2
  have pm := srtR_perm w c ((List.range m).filter (fin c))
  have pw := srtR_pw w c ((rg_incr m).sublist List.filter_sublist) fp
  have hP : ∀ k ∈ srtR w c ((List.range m).filter (fin c)), 0 < c k := fun k hk => fp k (pm.mem_iff.mp hk)
  have hPm : ∀ k ∈ srtR w c ((List.range m).filter (fin c)), k < m := fun k hk => by
    have := (List.mem_filter.mp (pm.mem_iff.mp hk)).1
    simpa using this
  generalize srtR w c ((List.range m).filter (fin c)) = P at *
  have nn : ∀ l, 0 ≤ sm w l := fun l => sm_nonneg w l fun k _ => hw k
  have hsplit : ∀ (f : Nat → Int) (χ : Nat → Bool), sm f ((List.range m).filter χ) = sm f (P.filter χ) + sm f (((List.range m).filter fun k => decide (c k = 0)).filter χ) := fun f χ => by
    rw [sm_split f (fin c) ((List.range m).filter χ), free_fin hc]
    have a1 : ((List.range m).filter χ).filter (fin c) = ((List.range m).filter (fin c)).filter χ := by
      rw [List.filter_filter, List.filter_filter]
      congr 1
      funext k
      exact Bool.and_comm ..
    have a2 : ((List.range m).filter χ).filter (fun k => decide (c k = 0)) = ((List.range m).filter fun k => decide (c k = 0)).filter χ := by
      rw [List.filter_filter, List.filter_filter]
      congr 1
      funext k
      exact Bool.and_comm ..
    rw [a1, a2, sm_perm f (pm.filter χ)]
  have cfree : ∀ χ : Nat → Bool, sm c (((List.range m).filter fun k => decide (c k = 0)).filter χ) = 0 := fun χ => sm_zero c _ fun k hk => by
    have := (List.mem_filter.mp (List.mem_filter.mp hk).1).2
    exact of_decide_eq_true this
  have wfree : ∀ χ : Nat → Bool, sm w (((List.range m).filter fun k => decide (c k = 0)).filter χ) ≤ sm w ((List.range m).filter fun k => decide (c k = 0)) := fun χ => by
    rw [sm_filter]
    exact sm_le _ _ _ fun k _ => by have := hw k; split <;> omega
  obtain ⟨d, hd, hdc, hdw⟩ := h2
  refine ⟨?_, ?_, ?_⟩
  · exact (run_ub w c hw hb hP pw (fun _ => false) (by
      have : P.filter (fun _ => false) = [] := List.filter_eq_nil_iff.mpr fun k _ => by simp
      rw [this, sm_nil]; exact hb)).1
  · have hs := bits_incr m d
    have hl := bits_lt m d
    have e1 := row_sum w hs hl
    have e2 := row_sum c hs hl
    rw [hsplit] at e1 e2
    rw [cfree] at e2
    have q := run_ub w c (t := sm w ((List.range m).filter fun k => decide (c k = 0))) hw hb hP pw (fun k => decide (k ∈ bitsOf m d)) (by omega)
    have r := wfree fun k => decide (k ∈ bitsOf m d)
    have le : best ≤ sm w ((List.range m).filter fun k => decide (c k = 0)) + sm w (P.filter fun k => decide (k ∈ bitsOf m d)) := by omega
    exact Int.le_trans (Int.mul_le_mul_of_nonneg_right le (Int.le_of_lt q.1)) q.2
  · obtain ⟨P1, P2, e, c1, ub⟩ := run_lb w c (t := sm w ((List.range m).filter fun k => decide (c k = 0))) hw (fun k hk => hM k (hPm k hk)) hM0 hb hP
    have pos := (run_ub w c (t := sm w ((List.range m).filter fun k => decide (c k = 0))) hw hb hP pw (fun _ => false) (by
      have : P.filter (fun _ => false) = [] := List.filter_eq_nil_iff.mpr fun k _ => by simp
      rw [this, sm_nil]; exact hb)).1
    have ndP : P.Nodup := pm.nodup_iff.mpr ((List.nodup_range).sublist List.filter_sublist)
    have ndA := ndP
    rw [e] at ndA
    have dis : ∀ k ∈ P2, k ∉ P1 := fun k h2 h1 => (List.nodup_append.mp ndA).2.2 k h1 k h2 rfl
    obtain ⟨q, hq, eq⟩ := bits_all m ((List.range m).filter fun k => decide (c k = 0 ∨ k ∈ P1)) ((rg_incr m).sublist List.filter_sublist) fun k hk => by
      have := (List.mem_filter.mp hk).1
      simpa using this
    have fP : P.filter (fun k => decide (c k = 0 ∨ k ∈ P1)) = P1 := by
      conv => lhs; rw [e]
      rw [List.filter_append]
      have z1 : P1.filter (fun k => decide (c k = 0 ∨ k ∈ P1)) = P1 := List.filter_eq_self.mpr fun k hk => decide_eq_true (.inr hk)
      have z2 : P2.filter (fun k => decide (c k = 0 ∨ k ∈ P1)) = [] := List.filter_eq_nil_iff.mpr fun k hk => by
        have p := hP k (by rw [e]; simp [hk])
        have n := dis k hk
        rw [decide_eq_true_iff]
        rintro (z | z)
        · omega
        · exact n z
      rw [z1, z2, List.append_nil]
    have fF : ((List.range m).filter fun k => decide (c k = 0)).filter (fun k => decide (c k = 0 ∨ k ∈ P1)) = (List.range m).filter fun k => decide (c k = 0) := List.filter_eq_self.mpr fun k hk => decide_eq_true (.inl (of_decide_eq_true (List.mem_filter.mp hk).2))
    have e1 := hsplit w fun k => decide (c k = 0 ∨ k ∈ P1)
    have e2 := hsplit c fun k => decide (c k = 0 ∨ k ∈ P1)
    rw [cfree, fP] at e2
    rw [fP, fF] at e1
    have h := h1 q hq (by rw [eq]; omega)
    rw [eq] at h
    have le : sm w ((List.range m).filter fun k => decide (c k = 0)) + sm w P1 + M ≤ best + M := by omega
    exact Int.le_trans ub (Int.mul_le_mul_of_nonneg_right le (Int.le_of_lt pos))
end
end LW
namespace LW
open PySem PySem.Spec PyProof.Rows L2 DL
def br_S1 : SM := sSet 1 (eLst aNil)
def br_B1 : SM := sSeq (sSet 4 (eC (.int 0))) (sSeq (sWhile 1000000 (sAnd (sV (eB ltD (rd (eV 4)) (rd (eCall lenD (aCons (rd (eV 1)) aNil))))) (sV (eB leD (rd (eB mulD (rd (eV 2)) (rd (eB ixD (rd (eB ixD (rd (eV 1)) (rd (eV 4)))) (rd (eC (.int 1))))))) (rd (eB mulD (rd (eB ixD (rd (eB ixD (rd (eV 1)) (rd (eV 4)))) (rd (eC (.int 0))))) (rd (eV 3))))))) (sAug 4 augAddD (rd (eC (.int 1)))) []) (sIns 1 (rd (eV 4)) (fz (eTup (aCons (fz (eV 2)) (aCons (fz (eV 3)) aNil))))))
def br_S2 : SM := sFor (iSeqA (lsFor (eV 0) [0])) [0] (tTup 2 (tCons (tN 2) (tCons (tN 3) tNil))) br_B1 [2, 3, 4]
def br_S3 : SM := sRet (eV 1)
theorem br_split : m_b_by_ratio = sSeq br_S1 (sSeq br_S2 (br_S3)) := rfl
theorem e_call {f : List PyData → Option AV} {E : AE → Rs AV} {s : AE} {x : PyData} {av : AV} (h : rd E s = .ok x) (hf : f [x] = some av) : eCall f (aCons (rd E) aNil) s = .ok av := by
  show (Rs.bind (Rs.bind (rd E s) fun d => Rs.bind (Rs.ok []) fun ds => .ok (d :: ds)) fun ds => Rs.of (f ds)) = _
  rw [h]
  show Rs.of (f [x]) = _
  rw [hf]
  rfl
theorem is_whole_int (a b : Int) : mf_is_whole [.int a, .int b] = .ok (dv (.bool (decide (b ≤ a)))) := rfl
theorem p_i0 (p : Int × Int) : ixD (DL.prD p) (.int 0) = some (dv (.int p.1)) := rfl
theorem p_i1 (p : Int × Int) : ixD (DL.prD p) (.int 1) = some (dv (.int p.2)) := rfl
theorem l2 : lenOk 2 := lenOk.of (by omega)
theorem gcd_step {x y : Int} (h1 : 0 ≤ x) (h2 : 0 ≤ y) : Int.gcd y (x % y) = Int.gcd x y := by
  obtain ⟨a, rfl⟩ := Int.eq_ofNat_of_zero_le h1
  obtain ⟨b, rfl⟩ := Int.eq_ofNat_of_zero_le h2
  rw [← Int.natCast_emod, Int.gcd_natCast_natCast, Int.gcd_natCast_natCast, Nat.gcd_comm a b, Nat.gcd_rec b a, Nat.gcd_comm]
/-- the loop of both -/
theorem gcd_loop (t b : PyData) : ∀ (n : Nat) (x y : Int), 0 ≤ x → 0 ≤ y → y < n → whL (sV (eB gtD (rd (eV 3)) (rd (eC (.int 0))))) (sPar [2, 3] (pCons (eV 3) (pCons (eB modD (rd (eV 2)) (rd (eV 3))) pNil))) [] n [.v t, .v b, .v (.int x), .v (.int y)] = .nx [.v t, .v b, .v (.int (Int.gcd x y)), .v (.int 0)]
  | 0, x, y, h1, h2, h3 => by omega
  | n + 1, x, y, h1, h2, h3 => by
    rw [whL_succ]
    by_cases h : 0 < y
    · have hm : modD (.int x) (.int y) = some (dv (.int (x % y))) := modD_i _ _ h
      have hr := Int.emod_nonneg x (show y ≠ 0 by omega)
      have hl := Int.emod_lt_of_pos x h
      simp [-reduceCtorEq, eV, h, hm, parL, slAs, slA, setL, asg, fgt]
      rw [gcd_loop t b n y (x % y) h2 hr (by omega)]
      rw [gcd_step h1 h2]
    · have hy : y = 0 := by omega
      subst hy
      simp [-reduceCtorEq, eV]
      omega
theorem gcd_abs (t b : Int) : Int.gcd (if t < 0 then -t else t) b = Int.gcd t b := by
  split
  · rw [Int.neg_gcd]
  · rfl
theorem low_run {t b : Int} (h : 0 < b) (hb : b < 1000000) : (m_b__law_low (st0 4 [false, true] [.int t, .int b])).out = .ok (dv (.tuple [.int (t / Int.gcd t b), .int (b / Int.gcd t b)])) := by
  have hg : 0 < Int.gcd t b := Int.gcd_pos_of_ne_zero_right t (by omega)
  have hle : (Int.gcd t b : Int) ≤ b := Int.le_of_dvd h (Int.gcd_dvd_right ..)
  have d1 : divD (.int t) (.int (Int.gcd t b)) = some (dv (.int (t / Int.gcd t b))) := divD_i _ _ (by omega)
  have d2 : divD (.int b) (.int (Int.gcd t b)) = some (dv (.int (b / Int.gcd t b))) := divD_i _ _ (by omega)
  have hl : whL (sV (eB gtD (rd (eV 3)) (rd (eC (.int 0))))) (sPar [2, 3] (pCons (eV 3) (pCons (eB modD (rd (eV 2)) (rd (eV 3))) pNil))) [] 1000000 [.v (.int t), .v (.int b), .v (.int (if t < 0 then -t else t)), .v (.int b)] = .nx [.v (.int t), .v (.int b), .v (.int (Int.gcd t b)), .v (.int 0)] := by
    rw [gcd_loop (.int t) (.int b) 1000000 _ _ (by split <;> omega) (by omega) (by omega), gcd_abs]
  simp [-reduceCtorEq, m_b__law_low, st0, argsS, argS, eV, absD, parL, slAs, slA, setL, asg, sWhile, fgt, hl, d1, d2, lenOk.of]
theorem law_low_ok {t b : Int} (h : 0 < b) (hb : b < 1000000) : mf__law_low [.int t, .int b] = .ok (dv (DL.prD (lowF t b))) := by
  rw [mf__law_low, mdef_eq]; exact low_run h hb
section
variable {w c : Nat → Int}
structure WOk (w c : Nat → Int) : Prop where
  w0 : ∀ k, 0 ≤ w k
  w1 : ∀ k, w k ≤ 19
  c0 : ∀ k, 0 ≤ c k
  c1 : ∀ k, c k ≤ 11
def wcP (w c : Nat → Int) (k : Nat) : Int × Int := (w k, c k)
def rwD (w c : Nat → Int) (l : List Nat) : PyData := .list (l.map fun k => DL.prD (wcP w c k))
theorem rw_len (l : List Nat) : lenD [rwD w c l] = some (dv (.int (l.length : Int))) := by
  show some (dv (.int ((l.map fun k => DL.prD (wcP w c k)).length : Int))) = _
  rw [List.length_map]
theorem rw_ix {l : List Nat} {i : Nat} (h : i < l.length) : ixD (rwD w c l) (.int (i : Int)) = some (dv (DL.prD (wcP w c (l.getD i 0)))) := ixL (f := fun k => DL.prD (wcP w c k)) 0 h
def passI (w c : Nat → Int) (x y : Nat) : Bool := decide (w x * c y ≤ w y * c x)
theorem insI_at {x : Nat} : ∀ (R : List Nat) (i : Nat), i ≤ R.length → (∀ j, j < i → passI w c x (R.getD j 0) = true) → (i = R.length ∨ passI w c x (R.getD i 0) = false) → insI w c x R = R.take i ++ [x] ++ R.drop i
  | [], i, h, _, _ => by
    have : i = 0 := by simpa using h
    subst this
    rfl
  | y :: R, 0, _, _, h2 => by
    have h2 : passI w c x y = false := by
      rcases h2 with h2 | h2
      · simp at h2
      · exact h2
    rw [insI_cons, if_neg (of_decide_eq_false h2)]
    rfl
  | y :: R, i + 1, h, h1, h2 => by
    have h0 : passI w c x y = true := h1 0 (by omega)
    rw [insI_cons, if_pos (of_decide_eq_true h0), insI_at R i (by simpa using h) (fun j hj => by have := h1 (j + 1) (by omega); simpa using this) (by
      rcases h2 with h2 | h2
      · left; simpa using h2
      · right; simpa using h2)]
    rfl
theorem insI_len (x : Nat) (R : List Nat) : (insI w c x R).length = R.length + 1 := by rw [(insI_perm w c x R).length_eq, List.length_cons]
theorem fold_len (l R : List Nat) : (l.foldl (fun R x => insI w c x R) R).length = R.length + l.length := by rw [(fold_perm w c l R).length_eq, List.length_append]
theorem br_turn (h : WOk w c) {Z : PyData} {R : List Nat} {x : Nat} (hR : R.length ≤ 100) :
    ∃ i : Int, br_B1 [.b Z, .o .ow (rwD w c R), .v (.int (w x)), .v (.int (c x)), .un] = .nx [.b Z, .o .ow (rwD w c (insI w c x R)), .v (.int (w x)), .v (.int (c x)), .v (.int i)] := by
  have hx0 := h.w0 x
  have hx1 := h.w1 x
  have ll := rw_len (w := w) (c := c) R
  have wh := wh_I (N := 1000000) (t := sAnd (sV (eB ltD (rd (eV 4)) (rd (eCall lenD (aCons (rd (eV 1)) aNil))))) (sV (eB leD (rd (eB mulD (rd (eV 2)) (rd (eB ixD (rd (eB ixD (rd (eV 1)) (rd (eV 4)))) (rd (eC (.int 1))))))) (rd (eB mulD (rd (eB ixD (rd (eB ixD (rd (eV 1)) (rd (eV 4)))) (rd (eC (.int 0))))) (rd (eV 3))))))) (body := sAug 4 augAddD (rd (eC (.int 1)))) (fg := []) (s := [.b Z, .o .ow (rwD w c R), .v (.int (w x)), .v (.int (c x)), .v (.int 0)])
    (I := fun n s => ∃ i : Nat, i ≤ R.length ∧ n = R.length - i ∧ (∀ j, j < i → passI w c x (R.getD j 0) = true) ∧ s = [.b Z, .o .ow (rwD w c R), .v (.int (w x)), .v (.int (c x)), .v (.int (i : Int))])
    (E := fun s => ∃ i : Nat, i ≤ R.length ∧ (∀ j, j < i → passI w c x (R.getD j 0) = true) ∧ (i = R.length ∨ passI w c x (R.getD i 0) = false) ∧ s = [.b Z, .o .ow (rwD w c R), .v (.int (w x)), .v (.int (c x)), .v (.int (i : Int))])
    (Q := fun s => ∃ i : Nat, i ≤ R.length ∧ (∀ j, j < i → passI w c x (R.getD j 0) = true) ∧ (i = R.length ∨ passI w c x (R.getD i 0) = false) ∧ s = [.b Z, .o .ow (rwD w c R), .v (.int (w x)), .v (.int (c x)), .v (.int (i : Int))])
    R.length (by omega) rfl ⟨0, by omega, by omega, fun j hj => by omega, rfl⟩ (fun n s hI => ?_) (fun s' hE => hE)
  · obtain ⟨s', e, i, hi, hp, hq, rfl⟩ := wh
    have hl : lenOk ((R.map fun k => DL.prD (wcP w c k)).length + 1) := lenOk.of (by rw [List.length_map]; omega)
    have hin : (rwD w c (insI w c x R)) = .list ((R.map fun k => DL.prD (wcP w c k)).take i ++ [.tuple [.int (w x), .int (c x)]] ++ (R.map fun k => DL.prD (wcP w c k)).drop i) := by
      rw [insI_at R i hi hp hq]
      unfold rwD
      rw [List.map_append, List.map_append, List.map_take, List.map_drop]
      rfl
    refine ⟨(i : Int), seq_to (s' := [.b Z, .o .ow (rwD w c R), .v (.int (w x)), .v (.int (c x)), .v (.int 0)]) rfl (seq_to e ?_)⟩
    rw [hin]
    show sIns 1 _ _ [.b Z, .o .ow (.list (R.map fun k => DL.prD (wcP w c k))), .v (.int (w x)), .v (.int (c x)), .v (.int (i : Int))] = _
    have hi3 : (0 : Int) ≤ (i : Int) ∧ (i : Int) ≤ 1000000 := by omega
    generalize (R.map fun k => DL.prD (wcP w c k)) = Y at *
    have lo2 := l2
    simp [-reduceCtorEq, sIns, onL, putL, eV, hl, lo2, hi3.1, hi3.2]
  · obtain ⟨i, hi, hn, hp, rfl⟩ := hI
    have lt : ltD (.int (i : Int)) (.int (R.length : Int)) = some (dv (.bool (decide (i < R.length)))) := by
      show some (dv (.bool (decide ((i : Int) < (R.length : Int))))) = _
      congr 3
      rw [decide_eq_decide]
      omega
    by_cases hl : i < R.length
    · have ix := rw_ix (w := w) (c := c) hl
      have i0 := p_i0 (wcP w c (R.getD i 0))
      have i1 := p_i1 (wcP w c (R.getD i 0))
      have m1 : mulD (.int (w x)) (.int (wcP w c (R.getD i 0)).2) = some (dv (.int (w x * c (R.getD i 0)))) := mulD_i _ _ (.inl (by omega))
      have y0 := h.w0 (R.getD i 0)
      have y1 := h.w1 (R.getD i 0)
      have m2 : mulD (.int (wcP w c (R.getD i 0)).1) (.int (c x)) = some (dv (.int (w (R.getD i 0) * c x))) := mulD_i _ _ (.inl ⟨by show _ < w (R.getD i 0); omega, by show w (R.getD i 0) < _; omega⟩)
      have lt2 : (i : Int) < (R.length : Int) := by omega
      have tst : (sAnd (sV (eB ltD (rd (eV 4)) (rd (eCall lenD (aCons (rd (eV 1)) aNil))))) (sV (eB leD (rd (eB mulD (rd (eV 2)) (rd (eB ixD (rd (eB ixD (rd (eV 1)) (rd (eV 4)))) (rd (eC (.int 1))))))) (rd (eB mulD (rd (eB ixD (rd (eB ixD (rd (eV 1)) (rd (eV 4)))) (rd (eC (.int 0))))) (rd (eV 3))))))) [.b Z, .o .ow (rwD w c R), .v (.int (w x)), .v (.int (c x)), .v (.int (i : Int))] = .ok (passI w c x (R.getD i 0)) := by
        unfold passI
        generalize DL.prD (wcP w c (R.getD i 0)) = P at *
        generalize (wcP w c (R.getD i 0)).1 = p1 at *
        generalize (wcP w c (R.getD i 0)).2 = p2 at *
        generalize w x * c (R.getD i 0) = q1 at *
        generalize w (R.getD i 0) * c x = q2 at *
        generalize rwD w c R = Y at *
        generalize (R.length : Int) = N at *
        generalize w x = wx at *
        generalize c x = cx at *
        simp [-reduceCtorEq, eV, ll, lt2, ix, i0, i1, m1, m2]
      by_cases hb : passI w c x (R.getD i 0) = true
      · right
        rw [hb] at tst
        refine ⟨tst, [.b Z, .o .ow (rwD w c R), .v (.int (w x)), .v (.int (c x)), .v (.int ((i + 1 : Nat) : Int))], R.length - (i + 1), .inl ?_, by omega, i + 1, by omega, rfl, fun j hj => ?_, rfl⟩
        · rw [show ((i + 1 : Nat) : Int) = (i : Int) + 1 by omega]
          generalize rwD w c R = Y at *
          rfl
        · by_cases e : j = i
          · rw [e]; exact hb
          · exact hp j (by omega)
      · left
        rw [Bool.not_eq_true] at hb
        rw [hb] at tst
        exact ⟨tst, i, hi, hp, .inr hb, rfl⟩
    · left
      have nlt : ¬ (i : Int) < (R.length : Int) := by omega
      refine ⟨?_, i, hi, hp, .inl (by omega), rfl⟩
      generalize rwD w c R = Y at *
      generalize (R.length : Int) = N at *
      generalize w x = wx at *
      generalize c x = cx at *
      simp [-reduceCtorEq, eV, ll, nlt]
theorem ratio_ok (h : WOk w c) {l : List Nat} (hl : l.length ≤ 50) : mf_by_ratio [rwD w c l] = .ok (dn (rwD w c (srtR w c l))) := by
  rw [mf_by_ratio, mdef_eq, br_split]
  show (sSeq br_S1 _ [.b (.list (l.map fun k => DL.prD (wcP w c k))), .un, .un, .un, .un]).out = _
  refine seq_out (s' := [.b (.list (l.map fun k => DL.prD (wcP w c k))), .o .ow (rwD w c []), .un, .un, .un]) rfl (seq_out (s' := [.b (.list (l.map fun k => DL.prD (wcP w c k))), .o .ow (rwD w c (srtR w c l)), .un, .un, .un]) ?_ ?_)
  · refine for_pre (emb := fun k => DL.prD (wcP w c k)) (S := fun pre => [.b (.list (l.map fun k => DL.prD (wcP w c k))), .o .ow (rwD w c (srtR w c pre)), .un, .un, .un]) l rfl rfl (fun pre x post er => ?_) rfl
    have hlp : (srtR w c pre).length ≤ 100 := by
      have h1 := fold_len (w := w) (c := c) pre []
      have h2 := congrArg List.length er
      rw [List.length_append] at h2
      unfold srtR
      rw [h1, List.length_nil]
      omega
    obtain ⟨i, bt⟩ := br_turn h (Z := .list (l.map fun k => DL.prD (wcP w c k))) (R := srtR w c pre) (x := x) hlp
    have ef : srtR w c (pre ++ [x]) = insI w c x (srtR w c pre) := by unfold srtR; rw [List.foldl_append]; rfl
    rw [← ef] at bt
    exact ⟨_, _, rfl, .inl bt, rfl⟩
  · unfold rwD
    generalize ((srtR w c l).map fun k => DL.prD (wcP w c k)) = Y
    rfl
end
end LW
namespace LW
open PySem PySem.Spec PyProof.Rows L2 DL
def pb_S1 : SM := sSet 3 (eDef mf_by_ratio (aCons (rd (eB zipL (rd (eV 1)) (rd (eV 0)))) aNil) (dd_by_ratio.drop 0))
def pb_S2 : SM := sPar [4, 5, 6] (pCons (eC (.int 0)) (pCons (eC (.int 1)) (pCons (eV 2) pNil)))
def pb_B1 : SM := sIf (sV (eB leD (rd (eV 8)) (rd (eV 6)))) (sSeq (sAug 4 augAddD (rd (eB mulD (rd (eV 7)) (rd (eV 5))))) (sAug 6 subD (rd (eV 8)))) (sIf (sV (eB gtD (rd (eV 6)) (rd (eC (.int 0))))) (sSeq (sPar [4, 5] (pCons (eB addD (rd (eB mulD (rd (eV 4)) (rd (eV 8)))) (rd (eB mulD (rd (eB mulD (rd (eV 7)) (rd (eV 6)))) (rd (eV 5))))) (pCons (eB mulD (rd (eV 5)) (rd (eV 8))) pNil))) (sSet 6 (eC (.int 0)))) sPass)
def pb_S3 : SM := sFor (iSeqA (lsFor (eV 3) [3])) [3] (tTup 2 (tCons (tN 7) (tCons (tN 8) tNil))) pb_B1 [7, 8]
def pb_S4 : SM := sPar [9, 10] (pCons (eV 4) (pCons (eV 5) pNil))
def pb_S5 : SM := sWhile 1000000 (sV (eB gtD (rd (eV 10)) (rd (eC (.int 0))))) (sPar [9, 10] (pCons (eV 10) (pCons (eB modD (rd (eV 9)) (rd (eV 10))) pNil))) []
def pb_S6 : SM := sRet (eTup (aCons (fz (eB divD (rd (eV 4)) (rd (eCall max2D (aCons (rd (eC (.int 1))) (aCons (rd (eV 9)) aNil)))))) (aCons (fz (eB divD (rd (eV 5)) (rd (eCall max2D (aCons (rd (eC (.int 1))) (aCons (rd (eV 9)) aNil)))))) aNil)))
theorem pb_split : m_b_part_bound = sSeq pb_S1 (sSeq pb_S2 (sSeq pb_S3 (sSeq pb_S4 (sSeq pb_S5 (pb_S6))))) := rfl
section
variable {w c : Nat → Int}
def fD (f : Nat → Int) (m : Nat) : PyData := .tuple ((List.range m).map fun k => PyData.int (f k))
theorem zip_map {α : Type} (f g : α → PyData) : ∀ l : List α, zipD (l.map f) (l.map g) = l.map fun k => .tuple [f k, g k]
  | [] => rfl
  | x :: l => by
    have := zip_map f g l
    unfold zipD at *
    rw [List.map_cons, List.map_cons, List.zipWith_cons_cons, this]
    rfl
theorem zip_wc {m : Nat} (hm : m ≤ 50) : zipL (fD w m) (fD c m) = some (dn (rwD w c (List.range m))) := by
  show (if lenOk (zipD ((List.range m).map fun k => PyData.int (w k)) ((List.range m).map fun k => PyData.int (c k))).length then some (dn (.list (zipD ((List.range m).map fun k => PyData.int (w k)) ((List.range m).map fun k => PyData.int (c k))))) else none) = _
  rw [zip_map, if_pos (lenOk.of (by rw [List.length_map, List.length_range]; omega))]
  rfl
/-- what stays small -/
structure BI (s : Int × Int × Int) : Prop where
  a : 0 ≤ s.1
  b : 0 < s.2.1
  l : 0 ≤ s.2.2
  m : s.2.2 ≤ 1000
  s : s.2.1 = 1 ∨ (s.2.2 = 0 ∧ s.2.1 ≤ 11)
theorem BI.b11 {s : Int × Int × Int} (h : BI s) : s.2.1 ≤ 11 := by rcases h.s with z | z <;> omega
theorem bi_step (h : WOk w c) {s : Int × Int × Int} (hs : BI s) (k : Nat) : BI (stp w c s k) := by
  obtain ⟨x, y, z⟩ := s
  obtain ⟨ha, hb, hl, hm, hx⟩ := hs
  dsimp only at *
  have w0 := h.w0 k
  have c0 := h.c0 k
  have c1 := h.c1 k
  have wy : 0 ≤ w k * y := Int.mul_nonneg w0 (by omega)
  unfold stp
  dsimp only
  by_cases h1 : c k ≤ z
  · rw [if_pos h1]
    exact ⟨by dsimp only; omega, hb, by dsimp only; omega, by dsimp only; omega, by
      dsimp only
      rcases hx with e | ⟨e1, e2⟩
      · exact .inl e
      · exact .inr ⟨by omega, e2⟩⟩
  · rw [if_neg h1]
    by_cases h2 : 0 < z
    · have y1 : y = 1 := by rcases hx with e | e <;> omega
      rw [if_pos h2, y1]
      have t1 : 0 ≤ x * c k := Int.mul_nonneg ha c0
      have t2 : 0 ≤ w k * z := Int.mul_nonneg w0 hl
      exact ⟨by dsimp only; omega, by dsimp only; omega, by dsimp only; omega, by dsimp only; omega, .inr ⟨rfl, by dsimp only; omega⟩⟩
    · rw [if_neg h2]
      exact ⟨ha, hb, hl, hm, hx⟩
theorem bi_run (h : WOk w c) : ∀ (P : List Nat) {s : Int × Int × Int}, BI s → BI (runW w c s P)
  | [], _, hs => hs
  | k :: P, _, hs => bi_run h P (bi_step h hs k)
theorem pb_turn (h : WOk w c) {N W B : PyData} {k : Nat} {R : PyData} {s : Int × Int × Int} (hs : BI s) :
    pb_B1 [.v N, .v W, .v B, .o .ln R, .v (.int s.1), .v (.int s.2.1), .v (.int s.2.2), .v (.int (w k)), .v (.int (c k)), .un, .un] = .nx [.v N, .v W, .v B, .o .ln R, .v (.int (stp w c s k).1), .v (.int (stp w c s k).2.1), .v (.int (stp w c s k).2.2), .v (.int (w k)), .v (.int (c k)), .un, .un] := by
  obtain ⟨x, y, z⟩ := s
  have w0 := h.w0 k
  have w1 := h.w1 k
  have c0 := h.c0 k
  have c1 := h.c1 k
  have b0 := hs.b
  have b1 := hs.b11
  dsimp only at *
  have m1 : mulD (.int (w k)) (.int y) = some (dv (.int (w k * y))) := mulD_i _ _ (.inl (by omega))
  have m2 : mulD (.int x) (.int (c k)) = some (dv (.int (x * c k))) := mulD_i _ _ (.inr (by omega))
  have m3 : mulD (.int (w k)) (.int z) = some (dv (.int (w k * z))) := mulD_i _ _ (.inl (by omega))
  have m4 : mulD (.int (w k * z)) (.int y) = some (dv (.int (w k * z * y))) := mulD_i _ _ (.inr (by omega))
  have m5 : mulD (.int y) (.int (c k)) = some (dv (.int (y * c k))) := mulD_i _ _ (.inr (by omega))
  unfold stp
  dsimp only
  by_cases h1 : c k ≤ z
  · rw [if_pos h1]
    generalize w k * y = q at *
    generalize w k = wk at *
    generalize c k = ck at *
    refine if_yes ?_ (seq_to (s' := [.v N, .v W, .v B, .o .ln R, .v (.int (x + q)), .v (.int y), .v (.int z), .v (.int wk), .v (.int ck), .un, .un]) ?_ ?_)
    · simp [-reduceCtorEq, eV, h1]
    · simp [-reduceCtorEq, eV, sAug, augAddD, m1, asg]
    · simp [-reduceCtorEq, eV, sAug, subD, asg]
  · rw [if_neg h1]
    by_cases h2 : 0 < z
    · rw [if_pos h2]
      generalize x * c k = q1 at *
      generalize w k * z * y = q2 at *
      generalize w k * z = q3 at *
      generalize y * c k = q4 at *
      generalize w k = wk at *
      generalize c k = ck at *
      refine if_no ?_ (if_yes ?_ (seq_to (s' := [.v N, .v W, .v B, .o .ln R, .v (.int (q1 + q2)), .v (.int q4), .v (.int z), .v (.int wk), .v (.int ck), .un, .un]) ?_ ?_))
      · simp [-reduceCtorEq, eV, h1]
      · simp [-reduceCtorEq, eV, h2]
      · simp [-reduceCtorEq, eV, m2, m3, m4, m5, parL, slAs, slA, setL, asg]
      · rfl
    · rw [if_neg h2]
      generalize w k = wk at *
      generalize c k = ck at *
      refine if_no ?_ (if_no ?_ rfl)
      · simp [-reduceCtorEq, eV, h1]
      · simp [-reduceCtorEq, eV, h2]
theorem bound_ok (h : WOk w c) {m : Nat} (hm : m ≤ 50) {b : Int} (hb : 0 ≤ b ∧ b ≤ 1000) : mf_part_bound [fD c m, fD w m, .int b] = .ok (dv (DL.prD (lowF (runW w c (0, 1, b) (srtR w c (List.range m))).1 (runW w c (0, 1, b) (srtR w c (List.range m))).2.1))) := by
  have z := zip_wc (w := w) (c := c) hm
  have ra := ratio_ok h (l := List.range m) (by rw [List.length_range]; omega)
  have bi := bi_run h (srtR w c (List.range m)) (s := (0, 1, b)) ⟨Int.le_refl _, Int.one_pos, hb.1, hb.2, .inl rfl⟩
  rw [mf_part_bound, mdef_eq, pb_split]
  show (sSeq pb_S1 _ [.v (fD c m), .v (fD w m), .v (.int b), .un, .un, .un, .un, .un, .un, .un, .un]).out = _
  generalize fD c m = N at *
  generalize fD w m = W at *
  generalize hR : srtR w c (List.range m) = R at *
  refine seq_out (s' := [.v N, .v W, .v (.int b), .o .ow (rwD w c R), .un, .un, .un, .un, .un, .un, .un]) ?_ (seq_out (s' := [.v N, .v W, .v (.int b), .o .ow (rwD w c R), .v (.int 0), .v (.int 1), .v (.int b), .un, .un, .un, .un]) ?_ (seq_out (s' := [.v N, .v W, .v (.int b), .o .ow (rwD w c R), .v (.int (runW w c (0, 1, b) R).1), .v (.int (runW w c (0, 1, b) R).2.1), .v (.int (runW w c (0, 1, b) R).2.2), .un, .un, .un, .un]) ?_ ?_))
  · generalize rwD w c (List.range m) = Y at *
    generalize rwD w c R = V at *
    simp [-reduceCtorEq, pb_S1, eV, z, ra, asg]
  · generalize rwD w c R = V at *
    simp [-reduceCtorEq, pb_S2, eV, parL, slAs, slA, setL, asg]
  · refine for_pre (emb := fun k => DL.prD (wcP w c k)) (S := fun pre => [.v N, .v W, .v (.int b), .o .ln (rwD w c R), .v (.int (runW w c (0, 1, b) pre).1), .v (.int (runW w c (0, 1, b) pre).2.1), .v (.int (runW w c (0, 1, b) pre).2.2), .un, .un, .un, .un]) R rfl rfl (fun pre k post er => ?_) rfl
    have bp := bi_run h pre (s := (0, 1, b)) ⟨Int.le_refl _, Int.one_pos, hb.1, hb.2, .inl rfl⟩
    have t := pb_turn h (N := N) (W := W) (B := .int b) (k := k) (R := rwD w c R) bp
    have e : runW w c (0, 1, b) (pre ++ [k]) = stp w c (runW w c (0, 1, b) pre) k := by rw [run_app]; rfl
    rw [← e] at t
    exact ⟨_, _, rfl, .inl t, rfl⟩
  · have ba := bi.a
    have bb := bi.b
    have b11 := bi.b11
    obtain ⟨g, g0, gb, a1, a2, a3, a4, a5⟩ := low_parts ba bb
    generalize hx : (runW w c (0, 1, b) R).1 = x at *
    generalize hy : (runW w c (0, 1, b) R).2.1 = y at *
    generalize (runW w c (0, 1, b) R).2.2 = l at *
    generalize rwD w c R = V at *
    refine seq_out (s' := [.v N, .v W, .v (.int b), .o .ow V, .v (.int x), .v (.int y), .v (.int l), .un, .un, .v (.int x), .v (.int y)]) ?_ (seq_outE ?_)
    · simp [-reduceCtorEq, pb_S4, eV, parL, slAs, slA, setL, asg]
    refine wh_I (I := fun n s => ∃ p q : Int, 0 ≤ p ∧ 0 ≤ q ∧ q.toNat = n ∧ Int.gcd p q = Int.gcd x y ∧ s = [.v N, .v W, .v (.int b), .o .ow V, .v (.int x), .v (.int y), .v (.int l), .un, .un, .v (.int p), .v (.int q)]) (E := fun s => s = [.v N, .v W, .v (.int b), .o .ow V, .v (.int x), .v (.int y), .v (.int l), .un, .un, .v (.int (Int.gcd x y)), .v (.int 0)]) y.toNat (by omega) rfl ⟨x, y, ba, by omega, rfl, rfl, rfl⟩ (fun n s hI => ?_) (fun s' hE => ?_)
    · obtain ⟨p, q, p0, q0, hn, hg, rfl⟩ := hI
      by_cases hq : 0 < q
      · right
        have md : modD (.int p) (.int q) = some (dv (.int (p % q))) := modD_i _ _ hq
        have r0 := Int.emod_nonneg p (show q ≠ 0 by omega)
        have r1 := Int.emod_lt_of_pos p hq
        refine ⟨?_, [.v N, .v W, .v (.int b), .o .ow V, .v (.int x), .v (.int y), .v (.int l), .un, .un, .v (.int q), .v (.int (p % q))], (p % q).toNat, .inl ?_, by omega, q, p % q, q0, r0, rfl, ?_, rfl⟩
        · simp [-reduceCtorEq, eV, hq]
        · simp [-reduceCtorEq, eV, md, parL, slAs, slA, setL, asg]
        · rw [gcd_step p0 q0, hg]
      · left
        have q1 : q = 0 := by omega
        subst q1
        have eg : p = (Int.gcd x y : Int) := by
          rw [← hg, Int.gcd_zero_right]
          omega
        refine ⟨?_, ?_⟩
        · simp [-reduceCtorEq, eV]
        · rw [← eg]
    · rw [hE]
      have hgp : 0 < Int.gcd x y := Int.gcd_pos_of_ne_zero_right x (by omega)
      have hle : (Int.gcd x y : Int) ≤ y := Int.le_of_dvd bb (Int.gcd_dvd_right ..)
      have d1 : divD (.int x) (.int (Int.gcd x y : Int)) = some (dv (.int (x / (Int.gcd x y : Int)))) := divD_i _ _ (by omega)
      have d2 : divD (.int y) (.int (Int.gcd x y : Int)) = some (dv (.int (y / (Int.gcd x y : Int)))) := divD_i _ _ (by omega)
      have mx : max2D [.int 1, .int (Int.gcd x y : Int)] = some (dv (.int (Int.gcd x y : Int))) := by
        show some (dv (.int (if (Int.gcd x y : Int) > 1 then (Int.gcd x y : Int) else 1))) = _
        congr 3
        split <;> omega
      refine ret_dv ?_
      show _ = Rs.ok (dv (.tuple [.int (x / (Int.gcd x y : Int)), .int (y / (Int.gcd x y : Int))]))
      have lo := l2
      generalize (Int.gcd x y : Int) = G at *
      generalize x / G = u at *
      generalize y / G = v at *
      simp [-reduceCtorEq, eV, mx, d1, d2, lo]
end
end LW
namespace LW
open PySem PySem.Spec PyProof.Rows L2 DL
def mf_E1 : AE → Rs AV := eGx true (iSeqA (lsFor (eV 0) [0])) [5] (tN 5) sYes (sV (eDef mf_is_whole (aCons (rd (eV 5)) (aCons (rd (eC (.int 0))) aNil)) (dd_is_whole.drop 1)))
def mf_S1 : SM := sIf (sOr (sNot (sT (rd (eU (isiD "tuple") (rd (eV 0)))))) (sOr (sNot (sT (rd mf_E1))) (sNot (sT (rd (eDef mf_is_whole (aCons (rd (eV 1)) (aCons (rd (eC (.int 0))) aNil)) (dd_is_whole.drop 1))))))) (sRaise "BadClaim") sPass
def mf_S2 : SM := sPar [2, 3] (pCons (eLst aNil) (pCons (eC (.int 0)) pNil))
def mf_E2 : AE → Rs AV := eSortK (iRg1 (rd (eCall lenD (aCons (rd (eV 0)) aNil)))) 5 (eTup (aCons (fz (eB ixD (rd (eV 0)) (rd (eV 5)))) (aCons (fz (eV 5)) aNil)))
def mf_B1 : SM := sIf (sV (eB leD (rd (eB addD (rd (eV 3)) (rd (eB ixD (rd (eV 0)) (rd (eV 4)))))) (rd (eV 1)))) (sSeq (sAug 3 augAddD (rd (eB ixD (rd (eV 0)) (rd (eV 4))))) (sApp 2 (fz (eV 4)))) sPass
def mf_S3 : SM := sFor (iSeqA (lsFor mf_E2 [])) [] (tN 4) mf_B1 [4]
def mf_E3 : AE → Rs AV := eSortC false (iCo (rd (eV 2)))
def mf_S4 : SM := sRet (eTup (aCons (fz (eCall lenD (aCons (rd (eV 2)) aNil))) (aCons (fz (eCall tupleD (aCons (rd mf_E3) aNil))) aNil)))
theorem mf_split : m_b_most_flights = sSeq mf_S1 (sSeq mf_S2 (sSeq mf_S3 (mf_S4))) := rfl
def bw_S1 : SM := sIf (sOr (sNot (sT (rd (eU (isiD "tuple") (rd (eV 0)))))) (sOr (sV (eB gtD (rd (eCall lenD (aCons (rd (eV 0)) aNil))) (rd (eC (.int 12))))) (sOr (sNot (sT (rd (eU (isiD "tuple") (rd (eV 1)))))) (sV (eB neD (rd (eCall lenD (aCons (rd (eV 1)) aNil))) (rd (eCall lenD (aCons (rd (eV 0)) aNil)))))))) (sRaise "BadClaim") sPass
def bw_E1 : AE → Rs AV := eGx true (iSeqA (lsFor (eB addD (rd (eV 0)) (rd (eV 1))) [])) [8] (tN 8) sYes (sV (eDef mf_is_whole (aCons (rd (eV 8)) (aCons (rd (eC (.int 0))) aNil)) (dd_is_whole.drop 1)))
def bw_S2 : SM := sIf (sOr (sNot (sT (rd bw_E1))) (sNot (sT (rd (eDef mf_is_whole (aCons (rd (eV 2)) (aCons (rd (eC (.int 0))) aNil)) (dd_is_whole.drop 1)))))) (sRaise "BadClaim") sPass
def bw_S3 : SM := sSet 3 (eC .none)
def bw_E2 : AE → Rs AV := eLc (iRg1 (rd (eCall lenD (aCons (rd (eV 0)) aNil)))) [7] (tN 7) (sT (rd (eB andD (rd (eB shrD (rd (eV 4)) (rd (eV 7)))) (rd (eC (.int 1)))))) (fz (eV 7))
def bw_E3 : AE → Rs AV := eLc (iSeqA (lsFor (eV 5) [5])) [7] (tN 7) sYes (fz (eB ixD (rd (eV 0)) (rd (eV 7))))
def bw_E4 : AE → Rs AV := eLc (iSeqA (lsFor (eV 5) [5])) [7] (tN 7) sYes (fz (eB ixD (rd (eV 1)) (rd (eV 7))))
def bw_B1 : SM := sSeq (sSet 5 (eCall tupleD (aCons (rd bw_E2) aNil))) (sIf (sV (eB leD (rd (eCall sumAD (aCons (rd bw_E3) aNil))) (rd (eV 2)))) (sSeq (sSet 6 (eTup (aCons (fz (eU negD (rd (eCall sumAD (aCons (rd bw_E4) aNil))))) (aCons (fz (eCall lenD (aCons (rd (eV 5)) aNil))) (aCons (fz (eV 5)) aNil))))) (sIf (sOr (sV (eB isD (rd (eV 3)) (rd (eC .none)))) (sV (eB ltXD (rd (eV 6)) (rd (eV 3))))) (sSet 3 (eV 6)) sPass)) sPass)
def bw_S4 : SM := sFor (iRg1 (rd (eB shlD (rd (eC (.int 1))) (rd (eCall lenD (aCons (rd (eV 0)) aNil)))))) [] (tN 4) bw_B1 [4, 5]
def bw_S5 : SM := sRet (eTup (aCons (fz (eU negD (rd (eB ixD (rd (eV 3)) (rd (eC (.int 0))))))) (aCons (fz (eB ixD (rd (eV 3)) (rd (eC (.int 2))))) aNil)))
theorem bw_split : m_b_best_worth = sSeq bw_S1 (sSeq bw_S2 (sSeq bw_S3 (sSeq bw_S4 (bw_S5)))) := rfl
def rf_S1 : SM := sTry cat_BadClaim (sDrop (eDef mf_best_worth (aCons (rd (eV 0)) (aCons (rd (eV 1)) (aCons (rd (eV 2)) aNil))) (dd_best_worth.drop 0))) (sRet (eC (.bool true)))
def rf_S2 : SM := sRet (eC (.bool false))
theorem rf_split : m_b__law_refuses = sSeq rf_S1 (rf_S2) := rfl
def tpD (c : List Nat) : PyData := .tuple (c.map fun k : Nat => PyData.int (k : Int))
section
open PySem.W
theorem alikeAll_tp : ∀ a b : List Nat, alikeAll (a.map fun k : Nat => PyData.int (k : Int)) (b.map fun k : Nat => PyData.int (k : Int)) = true
  | [], _ => by simp [alikeAll]
  | _ :: _, [] => by simp [alikeAll]
  | x :: a, y :: b => by
    rw [List.map_cons, List.map_cons, alikeAll, alikeAll_tp a b]
    simp [alike]
theorem alike_tp (a b : List Nat) : alike (tpD a) (tpD b) = true := by
  unfold tpD
  rw [alike]
  exact alikeAll_tp a b
theorem lt_toks : ∀ a b : List Nat, PyProof.Rows.lexLt itemOrd (keyToksAll (a.map fun k : Nat => PyData.int (k : Int))) (keyToksAll (b.map fun k : Nat => PyData.int (k : Int))) = ltL a b
  | [], [] => rfl
  | [], y :: b => by
    simp only [List.map_nil, List.map_cons, keyToksAll, ltL]
    rw [lex_atom (by simp)]
    rfl
  | x :: a, [] => by
    simp only [List.map_nil, List.map_cons, keyToksAll, ltL]
    rw [lex_atom (by simp)]
    rfl
  | x :: a, y :: b => by
    rw [List.map_cons, List.map_cons]
    have al : alike (.int (x : Int)) (.int (y : Int)) = true := by simp [alike]
    by_cases e : x = y
    · rw [dataLt_all_yes al (by rw [eqv_int]; simp; omega), lt_toks a b]
      simp [ltL, e]
    · rw [dataLt_all_no al (by rw [eqv_int]; simp; omega), dataLt_int]
      simp [ltL, e]
theorem lt_tp (a b : List Nat) : dataLt (tpD a) (tpD b) = ltL a b := by
  unfold tpD
  rw [dataLt_tuple]
  exact lt_toks a b
theorem depth_nats : ∀ l : List Nat, PyData.depthAll (l.map fun k : Nat => PyData.int (k : Int)) ≤ 1
  | [] => by simp [PyData.depthAll]
  | x :: l => by
    have := depth_nats l
    rw [List.map_cons]
    simp only [PyData.depthAll, PyData.depth]
    omega
theorem depth_tp : ∀ l : List (List Nat), PyData.depthAll (l.map tpD) ≤ 60
  | [] => by simp [PyData.depthAll]
  | c :: l => by
    have ih := depth_tp l
    have := depth_nats c
    rw [List.map_cons]
    simp only [PyData.depthAll, tpD, PyData.depth] at *
    refine Nat.max_le.mpr ⟨?_, ih⟩
    omega
theorem al2_tp (l : List (List Nat)) : al2 (l.map tpD) = true := by
  unfold al2
  simp only [Bool.and_eq_true, List.all_eq_true, List.mem_map, decide_eq_true_eq]
  refine ⟨⟨?_, ?_⟩, depth_tp l⟩
  · rintro _ ⟨p, _, rfl⟩ _ ⟨q, _, rfl⟩
    exact alike_tp p q
  · rintro _ ⟨p, _, rfl⟩
    rfl
theorem eqv_tps : ∀ a b : List Nat, PyData.eqvAll (a.map fun k : Nat => PyData.int (k : Int)) (b.map fun k : Nat => PyData.int (k : Int)) = decide (a = b)
  | [], [] => by simp [PyData.eqvAll]
  | [], y :: b => by simp [PyData.eqvAll]
  | x :: a, [] => by simp [PyData.eqvAll]
  | x :: a, y :: b => by
    rw [List.map_cons, List.map_cons, PyData.eqvAll, eqv_tps a b, eqv_int]
    by_cases e : x = y
    · subst e; simp
    · have : ¬ (x : Int) = (y : Int) := by omega
      simp [e, this]
theorem eqv_tp (a b : List Nat) : PyData.eqv (tpD a) (tpD b) = decide (a = b) := by
  unfold tpD
  rw [PyData.eqv]
  exact eqv_tps a b
theorem fit_tp (n : Nat) (c : List Nat) : fit (n + 1) (tpD c) = true := by
  show (c.map fun k : Nat => PyData.int (k : Int)).all (fit n) = true
  rw [List.all_eq_true]
  rintro _ h
  obtain ⟨i, _, rfl⟩ := List.mem_map.mp h
  cases n <;> rfl
end
theorem tp_len (c : List Nat) : lenD [tpD c] = some (dv (.int (c.length : Int))) := by
  show some (dv (.int ((c.map fun k : Nat => PyData.int (k : Int)).length : Int))) = _
  rw [List.length_map]
theorem bit_is (code k : Nat) : (Builtin.bitAnd ((code : Int) / 2 ^ k) 1 != 0) = code.testBit k := by
  rw [PyProof.Rows.bitAnd_m1, Nat.testBit_eq_decide_div_mod_eq]
  have e : ((code : Int) / 2 ^ k) % 2 = ((code / 2 ^ k % 2 : Nat) : Int) := by
    rw [Int.natCast_emod, Int.natCast_ediv, Int.natCast_pow]
    rfl
  rw [e]
  rcases Nat.mod_two_eq_zero_or_one (code / 2 ^ k) with h | h <;> rw [h] <;> rfl
theorem shl_ok {n : Nat} (h : n ≤ 9) : shlD (.int 1) (.int (n : Int)) = some (dv (.int ((2 ^ n : Nat) : Int))) := by
  match n, h with
  | 0, _ => kernel_rfl
  | 1, _ => kernel_rfl
  | 2, _ => kernel_rfl
  | 3, _ => kernel_rfl
  | 4, _ => kernel_rfl
  | 5, _ => kernel_rfl
  | 6, _ => kernel_rfl
  | 7, _ => kernel_rfl
  | 8, _ => kernel_rfl
  | 9, _ => kernel_rfl
  | n + 10, h => omega
theorem pow_le {n : Nat} (h : n ≤ 9) : 2 ^ n ≤ 512 := Nat.pow_le_pow_right (by omega) h
section
variable {w c : Nat → Int}
theorem f_len (f : Nat → Int) (m : Nat) : lenD [fD f m] = some (dv (.int (m : Int))) := by
  show some (dv (.int (((List.range m).map fun k => PyData.int (f k)).length : Int))) = _
  rw [List.length_map, List.length_range]
theorem f_ix (f : Nat → Int) {m k : Nat} (h : k < m) : ixD (fD f m) (.int (k : Int)) = some (dv (.int (f k))) := ix_tup (by rw [List.getElem?_map, List.getElem?_range h]; rfl)
def ckP (c : Nat → Int) (k : Nat) : Int × Int := (c k, (k : Int))
def ckLe (c : Nat → Int) (a b : Nat) : Bool := !SrtO.lexB (ckP c b) (ckP c a)
def ordL (c : Nat → Int) (m : Nat) : List Nat := (List.range m).mergeSort (ckLe c)
theorem ckLe_iff (a b : Nat) : ckLe c a b = true ↔ c a < c b ∨ (c a = c b ∧ a ≤ b) := by
  unfold ckLe SrtO.lexB ckP
  split
  · simp; omega
  · simp; omega
theorem ord_perm (m : Nat) : (ordL c m).Perm (List.range m) := List.mergeSort_perm ..
theorem ord_pw (m : Nat) : (ordL c m).Pairwise fun a b => c a ≤ c b := by
  have s : (ordL c m).Pairwise fun a b => ckLe c a b = true := List.pairwise_mergeSort (fun a b d h1 h2 => by
    rw [ckLe_iff] at *
    omega) (fun a b => by
    rw [Bool.or_eq_true, ckLe_iff, ckLe_iff]
    omega) _
  exact s.imp fun {a b} h => by
    rw [ckLe_iff] at h
    omega
theorem ord_len (m : Nat) : (ordL c m).length = m := by rw [(ord_perm m).length_eq, List.length_range]
def niL (l : List Nat) : List PyData := l.map fun k : Nat => PyData.int (k : Int)
theorem ni_is (l : List Nat) : niL l = (l.map fun k : Nat => (k : Int)).map .int := by unfold niL; rw [List.map_map]; rfl
theorem most_ok (h : WOk w c) {m : Nat} (hm : m ≤ 50) {b : Int} (hb : 0 ≤ b) {t : Nat} (ht : t ≤ (ordL c m).length) (hf : (ordL c m).foldl (grS c b) ([], 0) = ([] ++ (ordL c m).take t, 0 + sm c ((ordL c m).take t))) :
    mf_most_flights [fD c m, .int b] = .ok (dv (.tuple [.int (t : Int), .tuple ((srtI (((ordL c m).take t).map fun k : Nat => (k : Int))).map .int)])) := by
  have ol := ord_len (c := c) m
  have e1 : rd mf_E1 [.v (fD c m), .v (.int b), .un, .un, .un, .un] = .ok (.bool true) := by
    have := eGx_allN (emb := fun k => PyData.int (c k)) (q := fun _ => true) (it := iSeqA (lsFor (eV 0) [0])) (s := [.v (fD c m), .v (.int b), .un, .un, .un, .un]) (i := 5) (te := sV (eDef mf_is_whole (aCons (rd (eV 5)) (aCons (rd (eC (.int 0))) aNil)) (dd_is_whole.drop 1))) (List.range m) rfl rfl fun k hk => by
      have q := is_whole_int (c k) 0
      rw [decide_eq_true (h.c0 k)] at q
      show sV _ [.v (fD c m), .v (.int b), .un, .un, .un, .v (.int (c k))] = _
      generalize fD c m = N at *
      simp [-reduceCtorEq, eV, q]
    have : mf_E1 [.v (fD c m), .v (.int b), .un, .un, .un, .un] = .ok (dv (.bool true)) := by
      unfold mf_E1
      rw [this]
      congr 3
      rw [List.all_eq_true]
      intros; rfl
    exact rd_dv this
  have e2 : mf_E2 [.v (fD c m), .v (.int b), .o .ow (.list []), .v (.int 0), .un, .un] = .ok (dn (.list (niL (ordL c m)))) := by
    unfold mf_E2 niL ordL
    refine eSortK_map (emb := fun k : Nat => PyData.int (k : Int)) (key := fun k => DL.prD (ckP c k)) (List.range m) (ckLe c) ?_ rfl (lenOk.of (by rw [List.length_range]; omega)) (fun k hk => ?_) ?_ (fun a b => ordD_pr _ _)
    · have fl := f_len c m
      have hr : rgOk 0 (m : Int) := rgOk.of (by omega)
      rw [← rg_map]
      generalize fD c m = N at *
      generalize (m : Int) = M at *
      simp [-reduceCtorEq, eV, iRg1, fl, hr]
    · have hk : k < m := by simpa using hk
      have fx := f_ix c hk
      show _ = Rs.ok (PyData.tuple [.int (c k), .int (k : Int)])
      generalize fD c m = N at *
      generalize c k = ck at *
      simp [-reduceCtorEq, kfD, eV, wipeA, fx, lenOk.of, nox]
    · have := so2_prs ((List.range m).map (ckP c))
      rw [List.map_map] at this
      exact this
  have hit : iSeqA (lsFor mf_E2 []) [.v (fD c m), .v (.int b), .o .ow (.list []), .v (.int 0), .un, .un] = .ok (niL (ordL c m)) := by
    show (rd (lsFor _ _) _).bind itemsA = _
    have e4 : rd (lsFor mf_E2 []) [.v (fD c m), .v (.int b), .o .ow (.list []), .v (.int 0), .un, .un] = .ok (.list (niL (ordL c m))) := by
      generalize mf_E2 = E at *
      generalize fD c m = Z at *
      simp [-reduceCtorEq, lsFor, e2, okSl]
    rw [e4]
    rfl
  have iw := is_whole_int b 0
  rw [decide_eq_true hb] at iw
  have it : isiD "tuple" (fD c m) = some (dv (.bool true)) := rfl
  rw [mf_most_flights, mdef_eq, mf_split]
  show (sSeq mf_S1 _ [.v (fD c m), .v (.int b), .un, .un, .un, .un]).out = _
  refine seq_out (s' := [.v (fD c m), .v (.int b), .un, .un, .un, .un]) (if_no (or_no ?_ (or_no ?_ ?_)) rfl) (seq_out (s' := [.v (fD c m), .v (.int b), .o .ow (.list []), .v (.int 0), .un, .un]) ?_ (seq_out (s' := [.v (fD c m), .v (.int b), .o .ow (.list (niL ((ordL c m).take t))), .v (.int (sm c ((ordL c m).take t))), .un, .un]) ?_ ?_))
  · generalize fD c m = N at *
    simp [-reduceCtorEq, eV, it]
  · rw [sNot_eq, sT_eq, e1]
    rfl
  · generalize fD c m = N at *
    simp [-reduceCtorEq, eV, iw]
  · generalize fD c m = N at *
    rfl
  · have e0 : niL ((ordL c m).take t) = niL ((ordL c m).foldl (grS c b) ([], 0)).1 := by rw [hf]; rfl
    have e0' : sm c ((ordL c m).take t) = ((ordL c m).foldl (grS c b) ([], 0)).2 := by rw [hf]; exact (Int.zero_add _).symm
    rw [e0, e0']
    refine for_pre (emb := fun k : Nat => PyData.int (k : Int)) (S := fun pre => [.v (fD c m), .v (.int b), .o .ow (.list (niL (pre.foldl (grS c b) ([], 0)).1)), .v (.int (pre.foldl (grS c b) ([], 0)).2), .un, .un]) (ordL c m) hit rfl (fun pre k post er => ?_) rfl
    have hk : k < m := by
      have : k ∈ ordL c m := by rw [er]; simp
      have := (ord_perm m).mem_iff.mp this
      simpa using this
    have fx := f_ix c hk
    have hgl : (pre.foldl (grS c b) ([], 0)).1.length ≤ pre.length := by
      have : ∀ (l : List Nat) (s : List Nat × Int), (l.foldl (grS c b) s).1.length ≤ s.1.length + l.length := fun l => by
        induction l with
        | nil => intro s; exact Nat.le_refl _
        | cons x l ih =>
          intro s
          rw [List.foldl_cons, List.length_cons]
          have := ih (grS c b s x)
          have : (grS c b s x).1.length ≤ s.1.length + 1 := by
            unfold grS
            split
            · simp
            · omega
          omega
      have := this pre ([], 0)
      simpa using this
    have hpl : pre.length ≤ 50 := by
      have := congrArg List.length er
      rw [List.length_append] at this
      omega
    have ef : (pre ++ [k]).foldl (grS c b) ([], 0) = grS c b (pre.foldl (grS c b) ([], 0)) k := by rw [List.foldl_append]; rfl
    rw [ef]
    generalize pre.foldl (grS c b) ([], 0) = s at *
    obtain ⟨ch, tot⟩ := s
    dsimp only at *
    refine ⟨[.v (fD c m), .v (.int b), .o .ow (.list (niL ch)), .v (.int tot), .v (.int (k : Int)), .un], [.v (fD c m), .v (.int b), .o .ow (.list (niL (grS c b (ch, tot) k).1)), .v (.int (grS c b (ch, tot) k).2), .v (.int (k : Int)), .un], rfl, .inl ?_, rfl⟩
    have lo : lenOk ((niL ch).length + 1) := lenOk.of (by unfold niL; rw [List.length_map]; omega)
    unfold grS
    dsimp only
    by_cases hc : tot + c k ≤ b
    · rw [if_pos hc]
      dsimp only
      have mp : niL (ch ++ [k]) = niL ch ++ [.int (k : Int)] := by unfold niL; rw [List.map_append]; rfl
      rw [mp]
      generalize fD c m = N at *
      generalize niL ch = C at *
      generalize c k = ck at *
      refine if_yes ?_ (seq_to (s' := [.v N, .v (.int b), .o .ow (.list C), .v (.int (tot + ck)), .v (.int (k : Int)), .un]) ?_ ?_)
      · simp [-reduceCtorEq, eV, fx, hc]
      · simp [-reduceCtorEq, eV, sAug, augAddD, fx, asg]
      · simp [-reduceCtorEq, sApp, onL, putL, eV, lo]
    · rw [if_neg hc]
      dsimp only
      generalize fD c m = N at *
      generalize niL ch = C at *
      generalize c k = ck at *
      refine if_no ?_ rfl
      simp [-reduceCtorEq, eV, fx, hc]
  · have tl : ((ordL c m).take t).length = t := by rw [List.length_take]; omega
    have ll : lenD [.list (niL ((ordL c m).take t))] = some (dv (.int (t : Int))) := by
      show some (dv (.int ((niL ((ordL c m).take t)).length : Int))) = _
      unfold niL
      rw [List.length_map, tl]
    have e3 : rd mf_E3 [.v (fD c m), .v (.int b), .o .ow (.list (niL ((ordL c m).take t))), .v (.int (sm c ((ordL c m).take t))), .un, .un] = .ok (.list ((srtI (((ordL c m).take t).map fun k : Nat => (k : Int))).map .int)) := rd_dn (eSortC_ints (iCo_l (by rw [ni_is]; rfl)) (lenOk.of (by rw [List.length_map, tl]; omega)))
    refine ret_dv ?_
    have e5 : fz (eCall tupleD (aCons (rd mf_E3) aNil)) [.v (fD c m), .v (.int b), .o .ow (.list (niL ((ordL c m).take t))), .v (.int (sm c ((ordL c m).take t))), .un, .un] = .ok (.tuple ((srtI (((ordL c m).take t).map fun k : Nat => (k : Int))).map .int)) := fz_call e3 rfl
    generalize fz (eCall tupleD (aCons (rd mf_E3) aNil)) = G at *
    generalize (srtI (((ordL c m).take t).map fun k : Nat => (k : Int))).map PyData.int = S at *
    generalize niL ((ordL c m).take t) = C at *
    generalize fD c m = N at *
    have lo := l2
    simp [-reduceCtorEq, eV, ll, e5, lo]
end
end LW
namespace LW
open PySem PySem.Spec PyProof.Rows L2 DL
section
variable {w c : Nat → Int}
def K3 (w : Nat → Int) (s : List Nat) : PyData := .tuple [.int (-(sm w s)), .int (s.length : Int), tpD s]
theorem fit_K3 (s : List Nat) : fit 60 (K3 w s) = true := by
  show ([PyData.int (-(sm w s)), .int (s.length : Int), tpD s].all (fit 59)) = true
  simp only [List.all_cons, List.all_nil, Bool.and_true, Bool.and_eq_true]
  exact ⟨rfl, rfl, fit_tp 58 s⟩
section
open PySem.W
theorem alike_K3 (s b : List Nat) : alike (K3 w s) (K3 w b) = true := by
  simp [K3, alike, alikeAll, alike_tp]
theorem dataLt_K3 (s b : List Nat) : dataLt (K3 w s) (K3 w b) = lt3 w s b := by
  unfold K3
  rw [dataLt_tuple]
  have al : ∀ x y : Int, alike (.int x) (.int y) = true := fun x y => by simp [alike]
  unfold lt3
  by_cases e : sm w s = sm w b
  · rw [if_pos e, dataLt_all_yes (al _ _) (by rw [eqv_int]; simp [e])]
    by_cases e2 : s.length = b.length
    · rw [if_pos e2, dataLt_all_yes (al _ _) (by rw [eqv_int]; simp [e2])]
      by_cases e3 : s = b
      · subst e3
        rw [dataLt_all_yes (alike_tp s s) (by rw [eqv_tp]; simp), ltL_irr]
        rfl
      · rw [dataLt_all_no (alike_tp s b) (by rw [eqv_tp]; simp [e3]), lt_tp]
    · rw [if_neg e2, dataLt_all_no (al _ _) (by rw [eqv_int]; simp; omega), dataLt_int]
      rw [decide_eq_decide]
      omega
  · rw [if_neg e, dataLt_all_no (al _ _) (by rw [eqv_int]; simp; omega), dataLt_int]
    rw [decide_eq_decide]
    omega
theorem lt_K3 (s b : List Nat) : ltXD (K3 w s) (K3 w b) = some (dv (.bool (lt3 w s b))) := by
  have hc : cmpOk (K3 w s) (K3 w b) = true := by
    unfold cmpOk
    rw [alike_K3, fit_K3, fit_K3]
    rfl
  show (if cmpOk (K3 w s) (K3 w b) = true then some (dv (.bool (dataLt (K3 w s) (K3 w b)))) else none) = _
  rw [if_pos hc, dataLt_K3]
end
def oD3 (w : Nat → Int) : Option (List Nat) → PyData
  | none => .none
  | some s => K3 w s
theorem bits_len (m d : Nat) : (bitsOf m d).length ≤ m := by
  have := List.length_filter_le (fun k => d.testBit k) (List.range m)
  rw [List.length_range] at this
  exact this
/-- the chosen ones of a row, added up -/
theorem sum_at (f : Nat → Int) {m : Nat} {s : List Nat} : (s.map f).sum = sm f s := rfl
theorem bw_turn (h : WOk w c) {m : Nat} (hm : m ≤ 9) {b : Int} {d : Nat} {o : Option (List Nat)} {x : AS} (hx : x = .un ∨ ∃ d, x = .v d) :
    ∃ y : AS, (y = .un ∨ ∃ d, y = .v d) ∧ bw_B1 [.v (fD c m), .v (fD w m), .v (.int b), .v (oD3 w o), .v (.int (d : Int)), .un, x, .un, .un] = .nx [.v (fD c m), .v (fD w m), .v (.int b), .v (oD3 w (bwO w c b o (bitsOf m d))), .v (.int (d : Int)), .v (tpD (bitsOf m d)), y, .un, .un] := by
  have cl := f_len c m
  have bl := bits_len m d
  have hax : asg [.v (fD c m), .v (fD w m), .v (.int b), .v (oD3 w o), .v (.int (d : Int)), .v (tpD (bitsOf m d)), x, .un, .un] 6 = true := by rcases hx with e | ⟨z, e⟩ <;> subst e <;> rfl
  have e2 : bw_E2 [.v (fD c m), .v (fD w m), .v (.int b), .v (oD3 w o), .v (.int (d : Int)), .un, x, .un, .un] = .ok (dn (.list ((bitsOf m d).map fun k : Nat => PyData.int (k : Int)))) := by
    unfold bw_E2 bitsOf
    refine eLc_N (emb := fun k : Nat => PyData.int (k : Int)) (f := fun k : Nat => PyData.int (k : Int)) (p := fun k => d.testBit k) (List.range m) ?_ rfl (lenOk.of (by rw [List.length_range]; omega)) fun k hk => ⟨?_, fun _ => rfl⟩
    · have hr : rgOk 0 (m : Int) := rgOk.of (by omega)
      rw [← rg_map]
      generalize oD3 w o = O at *
      generalize fD c m = N at *
      generalize fD w m = W at *
      generalize (m : Int) = M at *
      simp [-reduceCtorEq, eV, iRg1, cl, hr]
    · have sh : shrD (.int (d : Int)) (.int (k : Int)) = some (dv (.int ((d : Int) / 2 ^ k))) := by
        show (if (0 : Int) ≤ (k : Int) then some (dv (.int ((d : Int) / 2 ^ (k : Int).toNat))) else none) = _
        rw [if_pos (by omega), Int.toNat_natCast]
      have an : andD (.int ((d : Int) / 2 ^ k)) (.int 1) = some (dv (.int (Builtin.bitAnd ((d : Int) / 2 ^ k) 1))) := rfl
      have tr : truthD (.int (Builtin.bitAnd ((d : Int) / 2 ^ k) 1)) = some (d.testBit k) := by
        show some (Builtin.bitAnd ((d : Int) / 2 ^ k) 1 != 0) = _
        rw [bit_is]
      show sT _ [.v (fD c m), .v (fD w m), .v (.int b), .v (oD3 w o), .v (.int (d : Int)), .un, x, .v (.int (k : Int)), .un] = _
      generalize Builtin.bitAnd ((d : Int) / 2 ^ k) 1 = V at *
      generalize ((d : Int) / 2 ^ k) = D at *
      generalize d.testBit k = T at *
      have ee : rd (eB andD (rd (eB shrD (rd (eV 4)) (rd (eV 7)))) (rd (eC (.int 1)))) [.v (fD c m), .v (fD w m), .v (.int b), .v (oD3 w o), .v (.int (d : Int)), .un, x, .v (.int (k : Int)), .un] = .ok (.int V) := by
        generalize oD3 w o = O at *
        generalize fD c m = N at *
        generalize fD w m = W at *
        simp [-reduceCtorEq, eV, sh, an]
      rw [sT_eq, ee]
      show Rs.of (truthD (.int V)) = _
      rw [tr]
      rfl
  have hlt := bits_lt m d
  generalize bitsOf m d = s at *
  have sumE : ∀ (f : Nat → Int) (y : AS), eLc (iSeqA (lsFor (eV 5) [5])) [7] (tN 7) sYes (fz (eB ixD (rd (eV 0)) (rd (eV 7)))) [.v (fD f m), .v (fD w m), .v (.int b), .v (oD3 w o), .v (.int (d : Int)), .v (tpD s), y, .un, .un] = .ok (dn (.list ((s.map f).map .int))) := fun f y => by
    rw [List.map_map]
    refine eLc_Nm (emb := fun k : Nat => PyData.int (k : Int)) (f := PyData.int ∘ f) s rfl rfl (lenOk.of (by omega)) fun k hk => ?_
    have fx := f_ix f (hlt k hk)
    show fz _ [.v (fD f m), .v (fD w m), .v (.int b), .v (oD3 w o), .v (.int (d : Int)), .v (tpD s), y, .v (.int (k : Int)), .un] = .ok (.int (f k))
    generalize oD3 w o = O at *
    generalize fD f m = N at *
    generalize fD w m = W at *
    generalize tpD s = T at *
    generalize f k = v at *
    simp [-reduceCtorEq, eV, fx]
  have sumE2 : ∀ y : AS, bw_E4 [.v (fD c m), .v (fD w m), .v (.int b), .v (oD3 w o), .v (.int (d : Int)), .v (tpD s), y, .un, .un] = .ok (dn (.list ((s.map w).map .int))) := fun y => by
    unfold bw_E4
    rw [List.map_map]
    refine eLc_Nm (emb := fun k : Nat => PyData.int (k : Int)) (f := PyData.int ∘ w) s rfl rfl (lenOk.of (by omega)) fun k hk => ?_
    have fx := f_ix w (hlt k hk)
    show fz _ [.v (fD c m), .v (fD w m), .v (.int b), .v (oD3 w o), .v (.int (d : Int)), .v (tpD s), y, .v (.int (k : Int)), .un] = .ok (.int (w k))
    generalize oD3 w o = O at *
    generalize fD c m = N at *
    generalize fD w m = W at *
    generalize tpD s = T at *
    generalize w k = v at *
    simp [-reduceCtorEq, eV, fx]
  have c1 : rd (eCall sumAD (aCons (rd bw_E3) aNil)) [.v (fD c m), .v (fD w m), .v (.int b), .v (oD3 w o), .v (.int (d : Int)), .v (tpD s), x, .un, .un] = .ok (.int (sm c s)) := rd_call (rd_dn (sumE c x)) (sumL _)
  have c2 : rd (eCall sumAD (aCons (rd bw_E4) aNil)) [.v (fD c m), .v (fD w m), .v (.int b), .v (oD3 w o), .v (.int (d : Int)), .v (tpD s), x, .un, .un] = .ok (.int (sm w s)) := rd_call (rd_dn (sumE2 x)) (sumL _)
  have l3 : lenOk 3 := lenOk.of (by omega)
  have tl := tp_len s
  have st5 : sSet 5 (eCall tupleD (aCons (rd bw_E2) aNil)) [.v (fD c m), .v (fD w m), .v (.int b), .v (oD3 w o), .v (.int (d : Int)), .un, x, .un, .un] = .nx [.v (fD c m), .v (fD w m), .v (.int b), .v (oD3 w o), .v (.int (d : Int)), .v (tpD s), x, .un, .un] := set_tup (rd_dn e2) rfl
  have tst : sV (eB leD (rd (eCall sumAD (aCons (rd bw_E3) aNil))) (rd (eV 2))) [.v (fD c m), .v (fD w m), .v (.int b), .v (oD3 w o), .v (.int (d : Int)), .v (tpD s), x, .un, .un] = .ok (decide (sm c s ≤ b)) := by
    generalize rd (eCall sumAD (aCons (rd bw_E3) aNil)) = G at *
    generalize oD3 w o = O at *
    generalize fD c m = N at *
    generalize fD w m = W at *
    generalize tpD s = T at *
    generalize sm c s = v at *
    simp [-reduceCtorEq, eV, c1]
  unfold bwO
  by_cases hb : sm c s ≤ b
  · rw [if_pos hb]
    rw [decide_eq_true hb] at tst
    have st6 : sSet 6 (eTup (aCons (fz (eU negD (rd (eCall sumAD (aCons (rd bw_E4) aNil))))) (aCons (fz (eCall lenD (aCons (rd (eV 5)) aNil))) (aCons (fz (eV 5)) aNil)))) [.v (fD c m), .v (fD w m), .v (.int b), .v (oD3 w o), .v (.int (d : Int)), .v (tpD s), x, .un, .un] = .nx [.v (fD c m), .v (fD w m), .v (.int b), .v (oD3 w o), .v (.int (d : Int)), .v (tpD s), .v (K3 w s), .un, .un] := by
      unfold K3
      generalize rd (eCall sumAD (aCons (rd bw_E4) aNil)) = G at *
      generalize oD3 w o = O at *
      generalize fD c m = N at *
      generalize fD w m = W at *
      generalize tpD s = T at *
      generalize sm w s = v at *
      generalize (s.length : Int) = L at *
      simp [-reduceCtorEq, eV, c2, tl, l3, hax]
    refine ⟨.v (K3 w s), .inr ⟨_, rfl⟩, seq_to st5 (if_yes tst (seq_to st6 ?_))⟩
    cases o with
    | none =>
      show sIf _ _ _ [.v (fD c m), .v (fD w m), .v (.int b), .v .none, .v (.int (d : Int)), .v (tpD s), .v (K3 w s), .un, .un] = SR.nx [.v (fD c m), .v (fD w m), .v (.int b), .v (K3 w s), .v (.int (d : Int)), .v (tpD s), .v (K3 w s), .un, .un]
      have isn : isD .none .none = some (dv (.bool true)) := rfl
      generalize K3 w s = K at *
      generalize fD c m = N at *
      generalize fD w m = W at *
      generalize tpD s = T at *
      refine if_yes ?_ ?_
      · simp [-reduceCtorEq, eV, isn]
      · simp [-reduceCtorEq, eV, asg]
    | some a =>
      dsimp only
      have lt := lt_K3 (w := w) s a
      have e0 : oD3 w (if lt3 w s a = true then some s else some a) = if lt3 w s a = true then K3 w s else K3 w a := by split <;> rfl
      rw [e0]
      have tt : (sOr (sV (eB isD (rd (eV 3)) (rd (eC .none)))) (sV (eB ltXD (rd (eV 6)) (rd (eV 3))))) [.v (fD c m), .v (fD w m), .v (.int b), .v (K3 w a), .v (.int (d : Int)), .v (tpD s), .v (K3 w s), .un, .un] = .ok (lt3 w s a) := by
        have isn : isD (K3 w a) .none = some (dv (.bool false)) := rfl
        unfold K3 at isn
        generalize hq : lt3 w s a = q at *
        have ka : K3 w a = .tuple [.int (-(sm w a)), .int (a.length : Int), tpD a] := rfl
        rw [ka] at lt ⊢
        generalize K3 w s = K at *
        generalize [PyData.int (-(sm w a)), .int (a.length : Int), tpD a] = A at *
        generalize fD c m = N at *
        generalize fD w m = W at *
        generalize tpD s = T at *
        generalize orTup PySem.W.dataLt ltD = F at *
        simp [-reduceCtorEq, eV, lt]
      show sIf _ _ _ [.v (fD c m), .v (fD w m), .v (.int b), .v (K3 w a), .v (.int (d : Int)), .v (tpD s), .v (K3 w s), .un, .un] = _
      by_cases hq : lt3 w s a = true
      · rw [if_pos hq]
        rw [hq] at tt
        refine if_yes tt ?_
        generalize K3 w s = K at *
        generalize K3 w a = A at *
        generalize fD c m = N at *
        generalize fD w m = W at *
        generalize tpD s = T at *
        simp [-reduceCtorEq, eV, asg]
      · rw [if_neg hq]
        rw [Bool.not_eq_true] at hq
        rw [hq] at tt
        exact if_no tt rfl
  · rw [if_neg hb]
    rw [decide_eq_false hb] at tst
    exact ⟨x, hx, seq_to st5 (if_no tst rfl)⟩
def allS (m : Nat) : List (List Nat) := (List.range (2 ^ m)).map (bitsOf m)
theorem worth_ok (h : WOk w c) {m : Nat} (hm : m ≤ 9) {b : Int} (hb : 0 ≤ b) {s : List Nat} (hs : (allS m).foldl (bwO w c b) none = some s) :
    mf_best_worth [fD c m, fD w m, .int b] = .ok (dv (.tuple [.int (sm w s), tpD s])) := by
  have cl := f_len c m
  have wl := f_len w m
  have ic : isiD "tuple" (fD c m) = some (dv (.bool true)) := rfl
  have iw : isiD "tuple" (fD w m) = some (dv (.bool true)) := rfl
  have nl : neD (.int (m : Int)) (.int (m : Int)) = some (dv (.bool false)) := neD_self rfl
  have gl : ¬ (12 : Int) < (m : Int) := by omega
  rw [mf_best_worth, mdef_eq, bw_split]
  show (sSeq bw_S1 _ [.v (fD c m), .v (fD w m), .v (.int b), .un, .un, .un, .un, .un, .un]).out = _
  have e1 : rd bw_E1 [.v (fD c m), .v (fD w m), .v (.int b), .un, .un, .un, .un, .un, .un] = .ok (.bool true) := by
    have hit : iSeqA (lsFor (eB addD (rd (eV 0)) (rd (eV 1))) []) [.v (fD c m), .v (fD w m), .v (.int b), .un, .un, .un, .un, .un, .un] = .ok (((List.range m).map c ++ (List.range m).map w).map .int) := by
      have ad : addD (fD c m) (fD w m) = some (dv (.tuple (((List.range m).map c ++ (List.range m).map w).map .int))) := by
        show (if lenOk (((List.range m).map fun k => PyData.int (c k)).length + ((List.range m).map fun k => PyData.int (w k)).length) then some (dv (.tuple (((List.range m).map fun k => PyData.int (c k)) ++ ((List.range m).map fun k => PyData.int (w k))))) else none) = _
        rw [if_pos (lenOk.of (by rw [List.length_map, List.length_map, List.length_range]; omega)), List.map_append, List.map_map, List.map_map]
        rfl
      show (rd (lsFor _ _) _).bind itemsA = _
      have e4 : rd (lsFor (eB addD (rd (eV 0)) (rd (eV 1))) []) [.v (fD c m), .v (fD w m), .v (.int b), .un, .un, .un, .un, .un, .un] = .ok (.tuple (((List.range m).map c ++ (List.range m).map w).map .int)) := by
        generalize fD c m = N at *
        generalize fD w m = W at *
        generalize ((List.range m).map c ++ (List.range m).map w).map PyData.int = Y at *
        simp [-reduceCtorEq, lsFor, eV, ad, okSl]
      rw [e4]
      rfl
    have := eGx_allN (emb := fun x : Int => PyData.int x) (q := fun _ => true) (it := iSeqA (lsFor (eB addD (rd (eV 0)) (rd (eV 1))) [])) (s := [.v (fD c m), .v (fD w m), .v (.int b), .un, .un, .un, .un, .un, .un]) (i := 8) (te := sV (eDef mf_is_whole (aCons (rd (eV 8)) (aCons (rd (eC (.int 0))) aNil)) (dd_is_whole.drop 1))) ((List.range m).map c ++ (List.range m).map w) hit rfl fun x hx => by
      have x0 : 0 ≤ x := by
        rcases List.mem_append.mp hx with hx | hx <;> obtain ⟨k, _, rfl⟩ := List.mem_map.mp hx
        · exact h.c0 k
        · exact h.w0 k
      have q := is_whole_int x 0
      rw [decide_eq_true x0] at q
      show sV _ [.v (fD c m), .v (fD w m), .v (.int b), .un, .un, .un, .un, .un, .v (.int x)] = _
      generalize fD c m = N at *
      generalize fD w m = W at *
      simp [-reduceCtorEq, eV, q]
    have : bw_E1 [.v (fD c m), .v (fD w m), .v (.int b), .un, .un, .un, .un, .un, .un] = .ok (dv (.bool true)) := by
      unfold bw_E1
      rw [this]
      congr 3
      rw [List.all_eq_true]
      intros; rfl
    exact rd_dv this
  have ib := is_whole_int b 0
  rw [decide_eq_true hb] at ib
  have sh := shl_ok hm
  have pw := pow_le hm
  have hit : iRg1 (rd (eB shlD (rd (eC (.int 1))) (rd (eCall lenD (aCons (rd (eV 0)) aNil))))) [.v (fD c m), .v (fD w m), .v (.int b), .v .none, .un, .un, .un, .un, .un] = .ok ((List.range (2 ^ m)).map fun k : Nat => PyData.int (k : Int)) := by
    generalize 2 ^ m = M at *
    have hr : rgOk 0 (M : Int) := rgOk.of (by omega)
    rw [← rg_map]
    generalize fD c m = N at *
    generalize fD w m = W at *
    simp [-reduceCtorEq, eV, iRg1, cl, sh, hr]
  have loop := for_rgI (m := 2 ^ m) (emb := fun k : Nat => PyData.int (k : Int)) (it := iRg1 (rd (eB shlD (rd (eC (.int 1))) (rd (eCall lenD (aCons (rd (eV 0)) aNil)))))) (ls := []) (t := tN 4) (body := bw_B1) (fg := [4, 5]) (s := [.v (fD c m), .v (fD w m), .v (.int b), .v .none, .un, .un, .un, .un, .un])
    (I := fun d s => ∃ x : AS, (x = .un ∨ ∃ d, x = .v d) ∧ s = [.v (fD c m), .v (fD w m), .v (.int b), .v (oD3 w (((List.range d).map (bitsOf m)).foldl (bwO w c b) none)), .un, .un, x, .un, .un]) (Q := fun s' => ∃ x : AS, s' = [.v (fD c m), .v (fD w m), .v (.int b), .v (oD3 w (some s)), .un, .un, x, .un, .un]) hit rfl ⟨.un, .inl rfl, rfl⟩ (fun d s hd hI => ?_) (fun s' hI => ?_)
  · obtain ⟨s', e4, x, rfl⟩ := loop
    refine seq_out (s' := [.v (fD c m), .v (fD w m), .v (.int b), .un, .un, .un, .un, .un, .un]) (if_no (or_no ?_ (or_no ?_ (or_no ?_ ?_))) rfl) (seq_out (s' := [.v (fD c m), .v (fD w m), .v (.int b), .un, .un, .un, .un, .un, .un]) (if_no (or_no ?_ ?_) rfl) (seq_out (s' := [.v (fD c m), .v (fD w m), .v (.int b), .v .none, .un, .un, .un, .un, .un]) rfl (seq_out e4 (ret_dv ?_))))
    · generalize fD c m = N at *
      generalize fD w m = W at *
      simp [-reduceCtorEq, eV, ic]
    · generalize fD c m = N at *
      generalize fD w m = W at *
      simp [-reduceCtorEq, eV, cl]
      omega
    · generalize fD c m = N at *
      generalize fD w m = W at *
      simp [-reduceCtorEq, eV, iw]
    · generalize fD c m = N at *
      generalize fD w m = W at *
      generalize (m : Int) = M at *
      simp [-reduceCtorEq, eV, cl, wl, nl]
    · rw [sNot_eq, sT_eq, e1]
      rfl
    · generalize fD c m = N at *
      generalize fD w m = W at *
      simp [-reduceCtorEq, eV, ib]
    · have k0 : ixD (K3 w s) (.int 0) = some (dv (.int (-(sm w s)))) := rfl
      have k2 : ixD (K3 w s) (.int 2) = some (dv (tpD s)) := rfl
      have lo := l2
      show eTup _ [.v (fD c m), .v (fD w m), .v (.int b), .v (K3 w s), .un, .un, x, .un, .un] = _
      generalize K3 w s = K at *
      generalize fD c m = N at *
      generalize fD w m = W at *
      generalize tpD s = T at *
      generalize sm w s = v at *
      simp [-reduceCtorEq, eV, k0, k2, lo]
  · obtain ⟨x, hx, rfl⟩ := hI
    obtain ⟨y, hy, e⟩ := bw_turn h hm (b := b) (d := d) (o := ((List.range d).map (bitsOf m)).foldl (bwO w c b) none) hx
    refine ⟨_, _, rfl, .inl e, y, hy, ?_⟩
    have : ((List.range (d + 1)).map (bitsOf m)).foldl (bwO w c b) none = bwO w c b (((List.range d).map (bitsOf m)).foldl (bwO w c b) none) (bitsOf m d) := by
      rw [List.range_succ, List.map_append, List.foldl_append]
      rfl
    rw [this]
    rfl
  · obtain ⟨x, hx, rfl⟩ := hI
    refine ⟨x, ?_⟩
    have : ((List.range (2 ^ m)).map (bitsOf m)).foldl (bwO w c b) none = some s := hs
    rw [this]
    rfl
end
end LW
namespace LW
open PySem PySem.Spec PyProof.Rows L2 DL
def lw_S1 : SM := sSet 2 (eB modD (rd (eB ixD (rd (eV 1)) (rd (eC (.int 0))))) (rd (eC (.int 8))))
def lw_E1 : AE → Rs AV := eLc (iRg1 (rd (eV 2))) [20] (tN 20) sYes (fz (eB modD (rd (eB ixD (rd (eV 1)) (rd (eB addD (rd (eC (.int 1))) (rd (eV 20)))))) (rd (eC (.int 12)))))
def lw_E2 : AE → Rs AV := eLc (iRg1 (rd (eV 2))) [20] (tN 20) sYes (fz (eB modD (rd (eB ixD (rd (eV 1)) (rd (eB addD (rd (eC (.int 9))) (rd (eV 20)))))) (rd (eC (.int 20)))))
def lw_S2 : SM := sAsg (tTup 2 (tCons (tN 3) (tCons (tN 4) tNil))) (eTup (aCons (fz (eCall tupleD (aCons (rd lw_E1) aNil))) (aCons (fz (eCall tupleD (aCons (rd lw_E2) aNil))) aNil)))
def lw_S3 : SM := sSet 5 (eB modD (rd (eB ixD (rd (eV 1)) (rd (eC (.int 17))))) (rd (eC (.int 40))))
def lw_E3 : AE → Rs AV := eLc (iRg1 (rd (eV 2))) [20] (tN 20) (sT (rd (eB andD (rd (eB shrD (rd (eV 23)) (rd (eV 20)))) (rd (eC (.int 1)))))) (fz (eV 20))
def lw_E4 : AE → Rs AV := eLc (iRg1 (rd (eB shlD (rd (eC (.int 1))) (rd (eV 2))))) [23] (tN 23) sYes (fz (eCall tupleD (aCons (rd lw_E3) aNil)))
def lw_S4 : SM := sSet 6 lw_E4
def lw_E5 : AE → Rs AV := eLc (iSeqA (lsFor (eV 24) [24])) [20] (tN 20) sYes (fz (eB ixD (rd (eV 3)) (rd (eV 20))))
def lw_E6 : AE → Rs AV := eLc (iSeqA (lsFor (eV 6) [6])) [24] (tN 24) (sV (eB leD (rd (eCall sumAD (aCons (rd lw_E5) aNil))) (rd (eV 5)))) (fz (eV 24))
def lw_S5 : SM := sSet 7 lw_E6
def lw_E7 : AE → Rs AV := eLc (iSeqA (lsFor (eV 7) [7])) [24] (tN 24) sYes (fz (eCall lenD (aCons (rd (eV 24)) aNil)))
def lw_S6 : SM := sSet 8 (eCall (pickAD PySem.W.maxD) (aCons (rd lw_E7) aNil))
def lw_S7 : SM := sAsg (tTup 2 (tCons (tN 9) (tCons (tN 10) tNil))) (eDef mf_most_flights (aCons (rd (eV 3)) (aCons (rd (eV 5)) aNil)) (dd_most_flights.drop 0))
def lw_E8 : AE → Rs AV := eLc (iRg1 (rd (eV 2))) [20] (tN 20) sYes (fz (eTup (aCons (fz (eB ixD (rd (eV 3)) (rd (eV 20)))) (aCons (fz (eV 20)) aNil))))
def lw_E9 : AE → Rs AV := eSortC false (iCo (rd lw_E8))
def lw_E10 : AE → Rs AV := eLc (iSeqA (lsFor lw_E9 [])) [25] (tN 25) sYes (fz (eB ixD (rd (eV 25)) (rd (eC (.int 1)))))
def lw_S8 : SM := sSet 11 lw_E10
def lw_E11 : AE → Rs AV := eSortC false (iCo (rd (eCut (rd (eV 11)) pNone (pSome (rd (eV 8))))))
def lw_S9 : SM := sIf (sOr (sV (eB neD (rd (eV 9)) (rd (eV 8)))) (sOr (sV (eB neD (rd (eV 10)) (rd (eCall tupleD (aCons (rd lw_E11) aNil))))) (sV (eB ninD (rd (eV 10)) (rd (eV 7)))))) (sRet (eC (.bool false))) sPass
def lw_E12 : AE → Rs AV := eLc (iSeqA (lsFor (eV 24) [24])) [20] (tN 20) sYes (fz (eB ixD (rd (eV 4)) (rd (eV 20))))
def lw_E13 : AE → Rs AV := eLc (iSeqA (lsFor (eV 7) [7])) [24] (tN 24) sYes (fz (eTup (aCons (fz (eB subD (rd (eC (.int 0))) (rd (eCall sumAD (aCons (rd lw_E12) aNil))))) (aCons (fz (eCall lenD (aCons (rd (eV 24)) aNil))) (aCons (fz (eV 24)) aNil)))))
def lw_S10 : SM := sSet 12 lw_E13
def lw_S11 : SM := sIf (sV (eB neD (rd (eDef mf_best_worth (aCons (rd (eV 3)) (aCons (rd (eV 4)) (aCons (rd (eV 5)) aNil))) (dd_best_worth.drop 0))) (rd (eTup (aCons (fz (eB subD (rd (eC (.int 0))) (rd (eB ixD (rd (eCall (pickAD PySem.W.minD) (aCons (rd (eV 12)) aNil))) (rd (eC (.int 0))))))) (aCons (fz (eB ixD (rd (eCall (pickAD PySem.W.minD) (aCons (rd (eV 12)) aNil))) (rd (eC (.int 2))))) aNil)))))) (sRet (eC (.bool false))) sPass
def lw_S12 : SM := sSet 13 (eB subD (rd (eC (.int 0))) (rd (eB ixD (rd (eCall (pickAD PySem.W.minD) (aCons (rd (eV 12)) aNil))) (rd (eC (.int 0))))))
def lw_S13 : SM := sSet 14 (eDef mf_part_bound (aCons (rd (eV 3)) (aCons (rd (eV 4)) (aCons (fz (eV 5)) aNil))) (dd_part_bound.drop 0))
def lw_S14 : SM := sIf (sOr (sV (eB neD (rd (eDef mf__law_low (aCons (rd (eB ixD (rd (eV 14)) (rd (eC (.int 0))))) (aCons (fz (eB ixD (rd (eV 14)) (rd (eC (.int 1))))) aNil)) (dd__law_low.drop 0))) (rd (eV 14)))) (sOr (sV (eB ltD (rd (eB ixD (rd (eV 14)) (rd (eC (.int 0))))) (rd (eB mulD (rd (eV 13)) (rd (eB ixD (rd (eV 14)) (rd (eC (.int 1))))))))) (sV (eB gtD (rd (eB ixD (rd (eV 14)) (rd (eC (.int 0))))) (rd (eB mulD (rd (eB addD (rd (eV 13)) (rd (eCall (pickAD PySem.W.maxD) (aCons (rd (eB addD (rd (eTup (aCons (fz (eC (.int 0))) aNil))) (rd (eV 4)))) aNil))))) (rd (eB ixD (rd (eV 14)) (rd (eC (.int 1))))))))))) (sRet (eC (.bool false))) sPass
def lw_E14 : AE → Rs AV := eLc (iRg1 (rd (eV 2))) [20] (tN 20) (sV (eB eqD (rd (eB ixD (rd (eV 3)) (rd (eV 20)))) (rd (eC (.int 0))))) (fz (eV 20))
def lw_S15 : SM := sSet 15 lw_E14
def lw_E15 : AE → Rs AV := eLc (iRg1 (rd (eV 2))) [20] (tN 20) (sV (eB gtD (rd (eB ixD (rd (eV 3)) (rd (eV 20)))) (rd (eC (.int 0))))) (fz (eV 20))
def lw_S16 : SM := sSet 16 lw_E15
def lw_E16 : AE → Rs AV := eLc (iSeqA (lsFor (eV 15) [15])) [20] (tN 20) sYes (fz (eB ixD (rd (eV 4)) (rd (eV 20))))
def lw_S17 : SM := sPar [17, 18] (pCons (eTup (aCons (fz (eCall sumAD (aCons (rd lw_E16) aNil))) (aCons (fz (eC (.int 1))) aNil))) (pCons (eV 5) pNil))
def lw_B1 : SM := sIf (sV (eB gtD (rd (eB mulD (rd (eB ixD (rd (eV 4)) (rd (eV 21)))) (rd (eB ixD (rd (eV 3)) (rd (eV 20)))))) (rd (eB mulD (rd (eB ixD (rd (eV 4)) (rd (eV 20)))) (rd (eB ixD (rd (eV 3)) (rd (eV 21)))))))) (sSet 20 (eV 21)) sPass
def lw_E17 : AE → Rs AV := eLc (iSeqA (lsFor (eV 16) [16])) [21] (tN 21) (sV (eB neD (rd (eV 21)) (rd (eV 20)))) (fz (eV 21))
def lw_B2 : SM := sSeq (sSet 20 (eB ixD (rd (eV 16)) (rd (eC (.int 0))))) (sSeq (sFor (iSeqA (lsFor (eV 16) [16])) [16] (tN 21) lw_B1 [21]) (sSeq (sSet 16 lw_E17) (sSeq (sSet 22 (eCall min2D (aCons (rd (eV 18)) (aCons (rd (eB ixD (rd (eV 3)) (rd (eV 20)))) aNil)))) (sSeq (sSet 17 (eDef mf__law_low (aCons (rd (eB addD (rd (eB mulD (rd (eB ixD (rd (eV 17)) (rd (eC (.int 0))))) (rd (eB ixD (rd (eV 3)) (rd (eV 20)))))) (rd (eB mulD (rd (eB mulD (rd (eB ixD (rd (eV 4)) (rd (eV 20)))) (rd (eV 22)))) (rd (eB ixD (rd (eV 17)) (rd (eC (.int 1))))))))) (aCons (fz (eB mulD (rd (eB ixD (rd (eV 17)) (rd (eC (.int 1))))) (rd (eB ixD (rd (eV 3)) (rd (eV 20)))))) aNil)) (dd__law_low.drop 0))) (sSet 18 (eB subD (rd (eV 18)) (rd (eV 22))))))))
def lw_S18 : SM := sFor (iRg1 (rd (eCall lenD (aCons (rd (eV 16)) aNil)))) [] (tN 19) lw_B2 [19, 20, 22]
def lw_S19 : SM := sIf (sV (eB neD (rd (eV 14)) (rd (eV 17)))) (sRet (eC (.bool false))) sPass
def lw_S20 : SM := sRet (eAnd (eDef mf__law_refuses (aCons (rd (eV 3)) (aCons (rd (eB addD (rd (eV 4)) (rd (eTup (aCons (fz (eC (.int 1))) aNil))))) (aCons (rd (eV 5)) aNil))) (dd__law_refuses.drop 0)) (eAnd (eDef mf__law_refuses (aCons (rd (eV 3)) (aCons (rd (eV 4)) (aCons (rd (eB ixD (rd (eTup (aCons (fz (eU negD (rd (eC (.int 1))))) (aCons (fz (eC .none)) (aCons (fz (eC (.bool true))) aNil))))) (rd (eB modD (rd (eB ixD (rd (eV 1)) (rd (eC (.int 18))))) (rd (eC (.int 3))))))) aNil))) (dd__law_refuses.drop 0)) (eDef mf__law_refuses (aCons (rd (eB mulTD (rd (eTup (aCons (fz (eC (.int 1))) aNil))) (rd (eC (.int 13))))) (aCons (rd (eB mulTD (rd (eTup (aCons (fz (eC (.int 1))) aNil))) (rd (eC (.int 13))))) (aCons (rd (eC (.int 5))) aNil))) (dd__law_refuses.drop 0))))
theorem lw_split : m_b_law = sSeq lw_S1 (sSeq lw_S2 (sSeq lw_S3 (sSeq lw_S4 (sSeq lw_S5 (sSeq lw_S6 (sSeq lw_S7 (sSeq lw_S8 (sSeq lw_S9 (sSeq lw_S10 (sSeq lw_S11 (sSeq lw_S12 (sSeq lw_S13 (sSeq lw_S14 (sSeq lw_S15 (sSeq lw_S16 (sSeq lw_S17 (sSeq lw_S18 (sSeq lw_S19 (lw_S20))))))))))))))))))) := rfl
theorem or_r {t u : AE → Rs Bool} {s : AE} (h1 : t s = .ok false) (h2 : u s = .ok true) : sOr t u s = .ok true := by
  show (t s).bind (fun b => if b = true then .ok true else u s) = _
  rw [h1]
  exact h2
theorem refuse {a b d : PyData} (ha : ∃ l, a = .tuple l) (hb : ∃ l, b = .tuple l) (hd : argS false d = .v d) (h : mf_best_worth [a, b, d] = .ex "BadClaim") : mf__law_refuses [a, b, d] = .ok (dv (.bool true)) := by
  obtain ⟨la, rfl⟩ := ha
  obtain ⟨lb, rfl⟩ := hb
  rw [mf__law_refuses, mdef_eq, rf_split]
  show (sSeq rf_S1 rf_S2 [.v (.tuple la), .v (.tuple lb), argS false d]).out = _
  rw [hd]
  generalize PyData.tuple la = A at *
  generalize PyData.tuple lb = B at *
  have e1 : sDrop (eDef mf_best_worth (aCons (rd (eV 0)) (aCons (rd (eV 1)) (aCons (rd (eV 2)) aNil))) (dd_best_worth.drop 0)) [.v A, .v B, .v d] = .ex "BadClaim" [.v A, .v B, .v d] := by
    show sB (mf_best_worth [A, B, d]) _ _ = _
    rw [h]
    rfl
  have e2 : rf_S1 [.v A, .v B, .v d] = .rt false (.bool true) [.v A, .v B, .v d] := by
    unfold rf_S1 sTry
    rw [e1]
    rfl
  rw [sq_rt e2]
  rfl
section
variable {w c : Nat → Int}
theorem wrong_len {m : Nat} (hm : m ≤ 9) {b : Int} {l : List PyData} (hl : l.length = m + 1) : mf_best_worth [fD c m, .tuple l, .int b] = .ex "BadClaim" := by
  have cl := f_len c m
  have wl : lenD [.tuple l] = some (dv (.int ((m : Int) + 1))) := by
    show some (dv (.int (l.length : Int))) = _
    rw [hl]
    rfl
  have ic : isiD "tuple" (fD c m) = some (dv (.bool true)) := rfl
  have iw : isiD "tuple" (.tuple l) = some (dv (.bool true)) := rfl
  have nl : neD (.int ((m : Int) + 1)) (.int (m : Int)) = some (dv (.bool true)) := by
    unfold neD
    rw [if_pos ⟨rfl, rfl⟩, eqv_i, decide_eq_false (by omega)]
    rfl
  have g : ¬ (12 : Int) < (m : Int) := by omega
  rw [mf_best_worth, mdef_eq, bw_split]
  show (sSeq bw_S1 _ [.v (fD c m), .v (.tuple l), .v (.int b), .un, .un, .un, .un, .un, .un]).out = _
  have e : bw_S1 [.v (fD c m), .v (.tuple l), .v (.int b), .un, .un, .un, .un, .un, .un] = .ex "BadClaim" [.v (fD c m), .v (.tuple l), .v (.int b), .un, .un, .un, .un, .un, .un] := by
    refine if_yes ?_ rfl
    generalize fD c m = N at *
    generalize PyData.tuple l = W at *
    generalize (m : Int) = M at *
    simp [-reduceCtorEq, eV, cl, wl, ic, iw, nl, g]
  rw [sq_ex e]
  rfl
theorem wrong_bound (h : WOk w c) {m : Nat} (hm : m ≤ 9) {d : PyData} (hd : argS false d = .v d) (hb : mf_is_whole [d, .int 0] = .ok (dv (.bool false))) : mf_best_worth [fD c m, fD w m, d] = .ex "BadClaim" := by
  have cl := f_len c m
  have wl := f_len w m
  have ic : isiD "tuple" (fD c m) = some (dv (.bool true)) := rfl
  have iw : isiD "tuple" (fD w m) = some (dv (.bool true)) := rfl
  have nl : neD (.int (m : Int)) (.int (m : Int)) = some (dv (.bool false)) := neD_self rfl
  have g : ¬ (12 : Int) < (m : Int) := by omega
  rw [mf_best_worth, mdef_eq, bw_split]
  show (sSeq bw_S1 _ [.v (fD c m), .v (fD w m), argS false d, .un, .un, .un, .un, .un, .un]).out = _
  rw [hd]
  have e1 : rd bw_E1 [.v (fD c m), .v (fD w m), .v d, .un, .un, .un, .un, .un, .un] = .ok (.bool true) := by
    have hit : iSeqA (lsFor (eB addD (rd (eV 0)) (rd (eV 1))) []) [.v (fD c m), .v (fD w m), .v d, .un, .un, .un, .un, .un, .un] = .ok (((List.range m).map c ++ (List.range m).map w).map .int) := by
      have ad : addD (fD c m) (fD w m) = some (dv (.tuple (((List.range m).map c ++ (List.range m).map w).map .int))) := by
        show (if lenOk (((List.range m).map fun k => PyData.int (c k)).length + ((List.range m).map fun k => PyData.int (w k)).length) then some (dv (.tuple (((List.range m).map fun k => PyData.int (c k)) ++ ((List.range m).map fun k => PyData.int (w k))))) else none) = _
        rw [if_pos (lenOk.of (by rw [List.length_map, List.length_map, List.length_range]; omega)), List.map_append, List.map_map, List.map_map]
        rfl
      show (rd (lsFor _ _) _).bind itemsA = _
      have e4 : rd (lsFor (eB addD (rd (eV 0)) (rd (eV 1))) []) [.v (fD c m), .v (fD w m), .v d, .un, .un, .un, .un, .un, .un] = .ok (.tuple (((List.range m).map c ++ (List.range m).map w).map .int)) := by
        generalize fD c m = N at *
        generalize fD w m = W at *
        generalize ((List.range m).map c ++ (List.range m).map w).map PyData.int = Y at *
        simp [-reduceCtorEq, lsFor, eV, ad, okSl]
      rw [e4]
      rfl
    have := eGx_allN (emb := fun x : Int => PyData.int x) (q := fun _ => true) (it := iSeqA (lsFor (eB addD (rd (eV 0)) (rd (eV 1))) [])) (s := [.v (fD c m), .v (fD w m), .v d, .un, .un, .un, .un, .un, .un]) (i := 8) (te := sV (eDef mf_is_whole (aCons (rd (eV 8)) (aCons (rd (eC (.int 0))) aNil)) (dd_is_whole.drop 1))) ((List.range m).map c ++ (List.range m).map w) hit rfl fun x hx => by
      have x0 : 0 ≤ x := by
        rcases List.mem_append.mp hx with hx | hx <;> obtain ⟨k, _, rfl⟩ := List.mem_map.mp hx
        · exact h.c0 k
        · exact h.w0 k
      have q := is_whole_int x 0
      rw [decide_eq_true x0] at q
      show sV _ [.v (fD c m), .v (fD w m), .v d, .un, .un, .un, .un, .un, .v (.int x)] = _
      generalize fD c m = N at *
      generalize fD w m = W at *
      simp [-reduceCtorEq, eV, q]
    have : bw_E1 [.v (fD c m), .v (fD w m), .v d, .un, .un, .un, .un, .un, .un] = .ok (dv (.bool true)) := by
      unfold bw_E1
      rw [this]
      congr 3
      rw [List.all_eq_true]
      intros; rfl
    exact rd_dv this
  have s1 : bw_S1 [.v (fD c m), .v (fD w m), .v d, .un, .un, .un, .un, .un, .un] = .nx [.v (fD c m), .v (fD w m), .v d, .un, .un, .un, .un, .un, .un] := by
    refine if_no (or_no ?_ (or_no ?_ (or_no ?_ ?_))) rfl
    · generalize fD c m = N at *
      generalize fD w m = W at *
      simp [-reduceCtorEq, eV, ic]
    · generalize fD c m = N at *
      generalize fD w m = W at *
      simp [-reduceCtorEq, eV, cl]
      omega
    · generalize fD c m = N at *
      generalize fD w m = W at *
      simp [-reduceCtorEq, eV, iw]
    · generalize fD c m = N at *
      generalize fD w m = W at *
      generalize (m : Int) = M at *
      simp [-reduceCtorEq, eV, cl, wl, nl]
  have s2 : bw_S2 [.v (fD c m), .v (fD w m), .v d, .un, .un, .un, .un, .un, .un] = .ex "BadClaim" [.v (fD c m), .v (fD w m), .v d, .un, .un, .un, .un, .un, .un] := by
    refine if_yes (or_r ?_ ?_) rfl
    · rw [sNot_eq, sT_eq, e1]
      rfl
    · generalize fD c m = N at *
      generalize fD w m = W at *
      simp [-reduceCtorEq, eV, hb]
  have hs := seq_to (m := bw_S1) (u := sSeq bw_S2 (sSeq bw_S3 (sSeq bw_S4 bw_S5))) s1 (sq_ex s2)
  rw [hs]
  rfl
end
theorem refuse3 : mf__law_refuses [.tuple (List.replicate 13 (.int 1)), .tuple (List.replicate 13 (.int 1)), .int 5] = .ok (dv (.bool true)) := by kernel_rfl
end LW
namespace LW
open PySem PySem.Spec PyProof.Rows L2 DL
structure Dr (n : Nat → Int) (m : Nat) (c w : Nat → Int) (b : Int) : Prop where
  hm : n 0 % 8 = (m : Int)
  hc : ∀ k, c k = n (1 + k) % 12
  hw : ∀ k, w k = n (9 + k) % 20
  hb : n 17 % 40 = b
section
variable {n : Nat → Int} {m : Nat} {c w : Nat → Int} {b : Int} {G : List (List Nat)} {t : Nat} {ch bs fr re : List Nat} {tl vl : Int × Int} {lf : Int}
theorem Dr.ok (D : Dr n m c w b) : WOk w c := ⟨fun k => by rw [D.hw]; omega, fun k => by rw [D.hw]; omega, fun k => by rw [D.hc]; omega, fun k => by rw [D.hc]; omega⟩
theorem Dr.m7 (D : Dr n m c w b) : m ≤ 7 := by have := D.hm; omega
theorem Dr.b0 (D : Dr n m c w b) : 0 ≤ b ∧ b ≤ 39 := by have := D.hb; omega
def gdS (c : Nat → Int) (b : Int) (m : Nat) : List (List Nat) := (allS m).filter fun s => decide (sm c s ≤ b)
theorem gd_iff {s : List Nat} : s ∈ gdS c b m ↔ ∃ d, d < 2 ^ m ∧ bitsOf m d = s ∧ sm c s ≤ b := by
  unfold gdS allS
  rw [List.mem_filter, List.mem_map, decide_eq_true_iff]
  constructor
  · rintro ⟨⟨d, hd, e⟩, h⟩; exact ⟨d, by simpa using hd, e, h⟩
  · rintro ⟨d, hd, e, h⟩; exact ⟨⟨d, by simpa using hd, e⟩, h⟩
theorem gd_len (hm : m ≤ 7) : (gdS c b m).length ≤ 128 := by
  have h1 := List.length_filter_le (fun s => decide (sm c s ≤ b)) (allS m)
  have h2 : (allS m).length = 2 ^ m := by unfold allS; rw [List.length_map, List.length_range]
  have h3 : 2 ^ m ≤ 2 ^ 7 := Nat.pow_le_pow_right (by omega) hm
  unfold gdS
  omega
theorem gd_row {s : List Nat} (h : s ∈ gdS c b m) : s.Pairwise (· < ·) ∧ (∀ k ∈ s, k < m) ∧ s.length ≤ m := by
  obtain ⟨d, _, e, _⟩ := gd_iff.mp h
  rw [← e]
  exact ⟨bits_incr m d, bits_lt m d, bits_len m d⟩
/-- the chosen ones -/
theorem chosen (h : WOk w c) (hm : m ≤ 7) (hb : 0 ≤ b) : ∃ (t : Nat) (ch : List Nat), t ≤ (ordL c m).length ∧ (ordL c m).foldl (grS c b) ([], 0) = ([] ++ (ordL c m).take t, 0 + sm c ((ordL c m).take t)) ∧
    srtI (((ordL c m).take t).map fun k : Nat => (k : Int)) = ch.map (fun k : Nat => (k : Int)) ∧ ch ∈ gdS c b m ∧ ch.length = t ∧ ∀ s ∈ gdS c b m, s.length ≤ t := by
  have op := ord_perm (c := c) m
  have nd : (ordL c m).Nodup := op.nodup_iff.mpr List.nodup_range
  obtain ⟨t, t1, t2, t3, t4⟩ := gr_ok c b (ordL c m) [] 0 (ord_pw m)
  have sub : ((ordL c m).take t).Sublist (ordL c m) := List.take_sublist ..
  have ndt := nd.sublist sub
  have pm : ((List.range m).filter fun k => decide (k ∈ (ordL c m).take t)).Perm ((ordL c m).take t) := (List.perm_ext_iff_of_nodup (List.nodup_range.sublist List.filter_sublist) ndt).mpr fun k => by
    rw [List.mem_filter, decide_eq_true_iff]
    exact ⟨fun h => h.2, fun h => ⟨op.mem_iff.mp (sub.subset h), h⟩⟩
  have inc : ((List.range m).filter fun k => decide (k ∈ (ordL c m).take t)).Pairwise (· < ·) := (rg_incr m).sublist List.filter_sublist
  refine ⟨t, (List.range m).filter fun k => decide (k ∈ (ordL c m).take t), t1, t2, ?_, ?_, ?_, fun s hs => ?_⟩
  · rw [← srtI_perm_eq (pm.map fun k : Nat => (k : Int))]
    refine srtI_id (List.pairwise_map.mpr (inc.imp fun {a b} h => ?_))
    omega
  · obtain ⟨d, hd, e⟩ := bits_all m _ inc fun k hk => by
      have := (List.mem_filter.mp hk).1
      simpa using this
    refine gd_iff.mpr ⟨d, hd, e, ?_⟩
    rw [sm_perm c pm]
    have := t3 hb
    omega
  · rw [pm.length_eq, List.length_take]
    omega
  · obtain ⟨g1, g2, g3⟩ := gd_row hs
    obtain ⟨_, _, _, hc⟩ := gd_iff.mp hs
    exact top_ok c h.c0 (ord_pw m) nd (g1.imp fun h => Nat.ne_of_lt h) (fun k hk => op.mem_iff.mpr (by simpa using g2 k hk)) (fun hl => by have := t4 hl; omega) hc
theorem s1 (D : Dr n m c w b) : lw_S1 [.un, .o .ow (.list (nums 30 n)), .un, .un, .un, .un, .un, .un, .un, .un, .un, .un, .un, .un, .un, .un, .un, .un, .un, .un, .un, .un, .un, .un, .un, .un] = .nx [.un, .o .ow (.list (nums 30 n)), .v (.int (m : Int)), .un, .un, .un, .un, .un, .un, .un, .un, .un, .un, .un, .un, .un, .un, .un, .un, .un, .un, .un, .un, .un, .un, .un] := by
  have j0 : ixD (.list (nums 30 n)) (.int 0) = some (dv (.int (n 0))) := nm_ix (k := 0) (by omega)
  have d0 : modD (.int (n 0)) (.int 8) = some (dv (.int (m : Int))) := by rw [modD_i _ _ (by decide), D.hm]
  generalize nums 30 n = N at *
  simp [-reduceCtorEq, lw_S1, eV, j0, d0, asg]
theorem rg_hit {A : AE} (hm : m ≤ 7) (h : rd (eV 2) A = .ok (.int (m : Int))) : iRg1 (rd (eV 2)) A = .ok ((List.range m).map fun k : Nat => PyData.int (k : Int)) := by
  have hr : rgOk 0 (m : Int) := rgOk.of (by omega)
  show Rs.bind (rd _ _) _ = _
  rw [h]
  show (if rgOk 0 (m : Int) then Rs.ok (rgD 0 (m : Int)) else .st) = _
  rw [if_pos hr, rg_map]
theorem s2 (D : Dr n m c w b) : lw_S2 [.un, .o .ow (.list (nums 30 n)), .v (.int (m : Int)), .un, .un, .un, .un, .un, .un, .un, .un, .un, .un, .un, .un, .un, .un, .un, .un, .un, .un, .un, .un, .un, .un, .un] = .nx [.un, .o .ow (.list (nums 30 n)), .v (.int (m : Int)), .v (fD c m), .v (fD w m), .un, .un, .un, .un, .un, .un, .un, .un, .un, .un, .un, .un, .un, .un, .un, .un, .un, .un, .un, .un, .un] := by
  have hm := D.m7
  have e1 : rd lw_E1 [.un, .o .ow (.list (nums 30 n)), .v (.int (m : Int)), .un, .un, .un, .un, .un, .un, .un, .un, .un, .un, .un, .un, .un, .un, .un, .un, .un, .un, .un, .un, .un, .un, .un] = .ok (.list ((List.range m).map fun k => PyData.int (c k))) := by
    refine rd_dn ?_
    unfold lw_E1
    refine eLc_Nm (emb := fun k : Nat => PyData.int (k : Int)) (f := fun k => PyData.int (c k)) (List.range m) (rg_hit hm rfl) rfl (lenOk.of (by rw [List.length_range]; omega)) fun k hk => ?_
    have hk : k < m := by simpa using hk
    have j1 := nm_ix (N := 30) (n := n) (k := 1 + k) (by omega)
    rw [show ((1 + k : Nat) : Int) = 1 + (k : Int) by omega] at j1
    have d1 : modD (.int (n (1 + k))) (.int 12) = some (dv (.int (c k))) := by rw [D.hc k]; exact modD_i _ _ (by decide)
    show fz _ [.un, .o .ow (.list (nums 30 n)), .v (.int (m : Int)), .un, .un, .un, .un, .un, .un, .un, .un, .un, .un, .un, .un, .un, .un, .un, .un, .un, .v (.int (k : Int)), .un, .un, .un, .un, .un] = .ok (.int (c k))
    generalize nums 30 n = N at *
    generalize c k = x at *
    generalize n (1 + k) = y at *
    simp [-reduceCtorEq, eV, j1, d1]
  have e2 : rd lw_E2 [.un, .o .ow (.list (nums 30 n)), .v (.int (m : Int)), .un, .un, .un, .un, .un, .un, .un, .un, .un, .un, .un, .un, .un, .un, .un, .un, .un, .un, .un, .un, .un, .un, .un] = .ok (.list ((List.range m).map fun k => PyData.int (w k))) := by
    refine rd_dn ?_
    unfold lw_E2
    refine eLc_Nm (emb := fun k : Nat => PyData.int (k : Int)) (f := fun k => PyData.int (w k)) (List.range m) (rg_hit hm rfl) rfl (lenOk.of (by rw [List.length_range]; omega)) fun k hk => ?_
    have hk : k < m := by simpa using hk
    have j1 := nm_ix (N := 30) (n := n) (k := 9 + k) (by omega)
    rw [show ((9 + k : Nat) : Int) = 9 + (k : Int) by omega] at j1
    have d1 : modD (.int (n (9 + k))) (.int 20) = some (dv (.int (w k))) := by rw [D.hw k]; exact modD_i _ _ (by decide)
    show fz _ [.un, .o .ow (.list (nums 30 n)), .v (.int (m : Int)), .un, .un, .un, .un, .un, .un, .un, .un, .un, .un, .un, .un, .un, .un, .un, .un, .un, .v (.int (k : Int)), .un, .un, .un, .un, .un] = .ok (.int (w k))
    generalize nums 30 n = N at *
    generalize w k = x at *
    generalize n (9 + k) = y at *
    simp [-reduceCtorEq, eV, j1, d1]
  have f1 : fz (eCall tupleD (aCons (rd lw_E1) aNil)) [.un, .o .ow (.list (nums 30 n)), .v (.int (m : Int)), .un, .un, .un, .un, .un, .un, .un, .un, .un, .un, .un, .un, .un, .un, .un, .un, .un, .un, .un, .un, .un, .un, .un] = .ok (fD c m) := fz_call e1 rfl
  have f2 : fz (eCall tupleD (aCons (rd lw_E2) aNil)) [.un, .o .ow (.list (nums 30 n)), .v (.int (m : Int)), .un, .un, .un, .un, .un, .un, .un, .un, .un, .un, .un, .un, .un, .un, .un, .un, .un, .un, .un, .un, .un, .un, .un] = .ok (fD w m) := fz_call e2 rfl
  unfold lw_S2 sAsg
  generalize fz (eCall tupleD (aCons (rd lw_E1) aNil)) = G1 at *
  generalize fz (eCall tupleD (aCons (rd lw_E2) aNil)) = G2 at *
  generalize nums 30 n = N at *
  generalize fD c m = C at *
  generalize fD w m = W at *
  have lo := l2
  simp [-reduceCtorEq, eV, f1, f2, lo]
  rfl
theorem s3 (D : Dr n m c w b) : lw_S3 [.un, .o .ow (.list (nums 30 n)), .v (.int (m : Int)), .v (fD c m), .v (fD w m), .un, .un, .un, .un, .un, .un, .un, .un, .un, .un, .un, .un, .un, .un, .un, .un, .un, .un, .un, .un, .un] = .nx [.un, .o .ow (.list (nums 30 n)), .v (.int (m : Int)), .v (fD c m), .v (fD w m), .v (.int b), .un, .un, .un, .un, .un, .un, .un, .un, .un, .un, .un, .un, .un, .un, .un, .un, .un, .un, .un, .un] := by
  have j0 : ixD (.list (nums 30 n)) (.int 17) = some (dv (.int (n 17))) := nm_ix (k := 17) (by omega)
  have d0 : modD (.int (n 17)) (.int 40) = some (dv (.int b)) := by rw [modD_i _ _ (by decide), D.hb]
  generalize nums 30 n = N at *
  generalize fD c m = C at *
  generalize fD w m = W at *
  simp [-reduceCtorEq, lw_S3, eV, j0, d0, asg]
theorem s4 (hm : m ≤ 7) : lw_S4 [.un, .o .ow (.list (nums 30 n)), .v (.int (m : Int)), .v (fD c m), .v (fD w m), .v (.int b), .un, .un, .un, .un, .un, .un, .un, .un, .un, .un, .un, .un, .un, .un, .un, .un, .un, .un, .un, .un] = .nx [.un, .o .ow (.list (nums 30 n)), .v (.int (m : Int)), .v (fD c m), .v (fD w m), .v (.int b), .o .ow (.list ((allS m).map tpD)), .un, .un, .un, .un, .un, .un, .un, .un, .un, .un, .un, .un, .un, .un, .un, .un, .un, .un, .un] := by
  have sh := shl_ok (n := m) (by omega)
  have pw := pow_le (n := m) (by omega)
  have e4 : lw_E4 [.un, .o .ow (.list (nums 30 n)), .v (.int (m : Int)), .v (fD c m), .v (fD w m), .v (.int b), .un, .un, .un, .un, .un, .un, .un, .un, .un, .un, .un, .un, .un, .un, .un, .un, .un, .un, .un, .un] = .ok (dn (.list ((allS m).map tpD))) := by
    unfold lw_E4 allS
    rw [List.map_map]
    refine eLc_Nm (emb := fun k : Nat => PyData.int (k : Int)) (f := tpD ∘ bitsOf m) (List.range (2 ^ m)) ?_ rfl (lenOk.of (by rw [List.length_range]; omega)) fun d hd => ?_
    · generalize 2 ^ m = M at *
      have hr : rgOk 0 (M : Int) := rgOk.of (by omega)
      rw [← rg_map]
      generalize fD c m = C at *
      generalize fD w m = W at *
      generalize nums 30 n = N at *
      simp [-reduceCtorEq, eV, iRg1, sh, hr]
    · have e3 : lw_E3 [.un, .o .ow (.list (nums 30 n)), .v (.int (m : Int)), .v (fD c m), .v (fD w m), .v (.int b), .un, .un, .un, .un, .un, .un, .un, .un, .un, .un, .un, .un, .un, .un, .un, .un, .un, .v (.int (d : Int)), .un, .un] = .ok (dn (.list ((bitsOf m d).map fun k : Nat => PyData.int (k : Int)))) := by
        unfold lw_E3 bitsOf
        refine eLc_N (emb := fun k : Nat => PyData.int (k : Int)) (f := fun k : Nat => PyData.int (k : Int)) (p := fun k => d.testBit k) (List.range m) (rg_hit hm rfl) rfl (lenOk.of (by rw [List.length_range]; omega)) fun k hk => ⟨?_, fun _ => rfl⟩
        have sh : shrD (.int (d : Int)) (.int (k : Int)) = some (dv (.int ((d : Int) / 2 ^ k))) := by
          show (if (0 : Int) ≤ (k : Int) then some (dv (.int ((d : Int) / 2 ^ (k : Int).toNat))) else none) = _
          rw [if_pos (by omega), Int.toNat_natCast]
        have an : andD (.int ((d : Int) / 2 ^ k)) (.int 1) = some (dv (.int (Builtin.bitAnd ((d : Int) / 2 ^ k) 1))) := rfl
        have tr : truthD (.int (Builtin.bitAnd ((d : Int) / 2 ^ k) 1)) = some (d.testBit k) := by
          show some (Builtin.bitAnd ((d : Int) / 2 ^ k) 1 != 0) = _
          rw [bit_is]
        show sT _ [.un, .o .ow (.list (nums 30 n)), .v (.int (m : Int)), .v (fD c m), .v (fD w m), .v (.int b), .un, .un, .un, .un, .un, .un, .un, .un, .un, .un, .un, .un, .un, .un, .v (.int (k : Int)), .un, .un, .v (.int (d : Int)), .un, .un] = _
        generalize Builtin.bitAnd ((d : Int) / 2 ^ k) 1 = V at *
        generalize ((d : Int) / 2 ^ k) = Q at *
        generalize d.testBit k = T at *
        have ee : rd (eB andD (rd (eB shrD (rd (eV 23)) (rd (eV 20)))) (rd (eC (.int 1)))) [.un, .o .ow (.list (nums 30 n)), .v (.int (m : Int)), .v (fD c m), .v (fD w m), .v (.int b), .un, .un, .un, .un, .un, .un, .un, .un, .un, .un, .un, .un, .un, .un, .v (.int (k : Int)), .un, .un, .v (.int (d : Int)), .un, .un] = .ok (.int V) := by
          generalize fD c m = C at *
          generalize fD w m = W at *
          generalize nums 30 n = N at *
          simp [-reduceCtorEq, eV, sh, an]
        rw [sT_eq, ee]
        show Rs.of (truthD (.int V)) = _
        rw [tr]
        rfl
      exact fz_call (rd_dn e3) rfl
  unfold lw_S4
  rw [set_is e4]
  rfl
theorem s5 (hm : m ≤ 7) (hG : G = gdS c b m) : lw_S5 [.un, .o .ow (.list (nums 30 n)), .v (.int (m : Int)), .v (fD c m), .v (fD w m), .v (.int b), .o .ow (.list ((allS m).map tpD)), .un, .un, .un, .un, .un, .un, .un, .un, .un, .un, .un, .un, .un, .un, .un, .un, .un, .un, .un] = .nx [.un, .o .ow (.list (nums 30 n)), .v (.int (m : Int)), .v (fD c m), .v (fD w m), .v (.int b), .o .ow (.list ((allS m).map tpD)), .o .ow (.list (G.map tpD)), .un, .un, .un, .un, .un, .un, .un, .un, .un, .un, .un, .un, .un, .un, .un, .un, .un, .un] := by
  have al : (allS m).length ≤ 128 := by
    have h2 : (allS m).length = 2 ^ m := by unfold allS; rw [List.length_map, List.length_range]
    have h3 : 2 ^ m ≤ 2 ^ 7 := Nat.pow_le_pow_right (by omega) hm
    omega
  have e6 : lw_E6 [.un, .o .ow (.list (nums 30 n)), .v (.int (m : Int)), .v (fD c m), .v (fD w m), .v (.int b), .o .ow (.list ((allS m).map tpD)), .un, .un, .un, .un, .un, .un, .un, .un, .un, .un, .un, .un, .un, .un, .un, .un, .un, .un, .un] = .ok (dn (.list (G.map tpD))) := by
    rw [hG]
    unfold lw_E6 gdS
    refine eLc_N (emb := tpD) (f := tpD) (allS m) rfl rfl (lenOk.of (by omega)) fun s hs => ⟨?_, fun _ => rfl⟩
    have hlt : ∀ k ∈ s, k < m := by
      obtain ⟨d, _, rfl⟩ := List.mem_map.mp hs
      exact bits_lt m d
    have sl : s.length ≤ m := by
      obtain ⟨d, _, rfl⟩ := List.mem_map.mp hs
      exact bits_len m d
    have e5 : lw_E5 [.un, .o .ow (.list (nums 30 n)), .v (.int (m : Int)), .v (fD c m), .v (fD w m), .v (.int b), .o .ow (.list ((allS m).map tpD)), .un, .un, .un, .un, .un, .un, .un, .un, .un, .un, .un, .un, .un, .un, .un, .un, .un, .v (tpD s), .un] = .ok (dn (.list ((s.map c).map .int))) := by
      unfold lw_E5
      rw [List.map_map]
      refine eLc_Nm (emb := fun k : Nat => PyData.int (k : Int)) (f := PyData.int ∘ c) s rfl rfl (lenOk.of (by omega)) fun k hk => ?_
      have fx := f_ix c (hlt k hk)
      show fz _ [.un, .o .ow (.list (nums 30 n)), .v (.int (m : Int)), .v (fD c m), .v (fD w m), .v (.int b), .o .ow (.list ((allS m).map tpD)), .un, .un, .un, .un, .un, .un, .un, .un, .un, .un, .un, .un, .un, .v (.int (k : Int)), .un, .un, .un, .v (tpD s), .un] = .ok (.int (c k))
      generalize fD c m = C at *
      generalize fD w m = W at *
      generalize nums 30 n = N at *
      generalize (allS m).map tpD = A at *
      generalize tpD s = T at *
      generalize c k = x at *
      simp [-reduceCtorEq, eV, fx]
    have e5' : rd (eCall sumAD (aCons (rd lw_E5) aNil)) [.un, .o .ow (.list (nums 30 n)), .v (.int (m : Int)), .v (fD c m), .v (fD w m), .v (.int b), .o .ow (.list ((allS m).map tpD)), .un, .un, .un, .un, .un, .un, .un, .un, .un, .un, .un, .un, .un, .un, .un, .un, .un, .v (tpD s), .un] = .ok (.int (sm c s)) := rd_call (rd_dn e5) (sumL _)
    show sV _ [.un, .o .ow (.list (nums 30 n)), .v (.int (m : Int)), .v (fD c m), .v (fD w m), .v (.int b), .o .ow (.list ((allS m).map tpD)), .un, .un, .un, .un, .un, .un, .un, .un, .un, .un, .un, .un, .un, .un, .un, .un, .un, .v (tpD s), .un] = _
    generalize rd (eCall sumAD (aCons (rd lw_E5) aNil)) = Q at *
    generalize fD c m = C at *
    generalize fD w m = W at *
    generalize nums 30 n = N at *
    generalize (allS m).map tpD = A at *
    generalize tpD s = T at *
    generalize sm c s = x at *
    simp [-reduceCtorEq, eV, e5']
  unfold lw_S5
  rw [set_is e6]
  rfl
theorem s6 (hm : m ≤ 7) (hG : G = gdS c b m) (hc : ch ∈ G) (ht : ch.length = t) (hu : ∀ s ∈ G, s.length ≤ t) : lw_S6 [.un, .o .ow (.list (nums 30 n)), .v (.int (m : Int)), .v (fD c m), .v (fD w m), .v (.int b), .o .ow (.list ((allS m).map tpD)), .o .ow (.list (G.map tpD)), .un, .un, .un, .un, .un, .un, .un, .un, .un, .un, .un, .un, .un, .un, .un, .un, .un, .un] = .nx [.un, .o .ow (.list (nums 30 n)), .v (.int (m : Int)), .v (fD c m), .v (fD w m), .v (.int b), .o .ow (.list ((allS m).map tpD)), .o .ow (.list (G.map tpD)), .v (.int (t : Int)), .un, .un, .un, .un, .un, .un, .un, .un, .un, .un, .un, .un, .un, .un, .un, .un, .un] := by
  have gl : G.length ≤ 128 := by rw [hG]; exact gd_len hm
  have e7 : lw_E7 [.un, .o .ow (.list (nums 30 n)), .v (.int (m : Int)), .v (fD c m), .v (fD w m), .v (.int b), .o .ow (.list ((allS m).map tpD)), .o .ow (.list (G.map tpD)), .un, .un, .un, .un, .un, .un, .un, .un, .un, .un, .un, .un, .un, .un, .un, .un, .un, .un] = .ok (dn (.list ((G.map fun s => (s.length : Int)).map .int))) := by
    unfold lw_E7
    rw [List.map_map]
    refine eLc_Nm (emb := tpD) (f := PyData.int ∘ fun s => (s.length : Int)) G rfl rfl (lenOk.of (by omega)) fun s hs => ?_
    have x := tp_len s
    show fz _ [.un, .o .ow (.list (nums 30 n)), .v (.int (m : Int)), .v (fD c m), .v (fD w m), .v (.int b), .o .ow (.list ((allS m).map tpD)), .o .ow (.list (G.map tpD)), .un, .un, .un, .un, .un, .un, .un, .un, .un, .un, .un, .un, .un, .un, .un, .un, .v (tpD s), .un] = .ok (.int (s.length : Int))
    generalize fD c m = C at *
    generalize fD w m = W at *
    generalize nums 30 n = N at *
    generalize (allS m).map tpD = A at *
    generalize G.map tpD = A2 at *
    generalize tpD s = T at *
    simp [-reduceCtorEq, eV, x]
  have mx := max_ints (l := G.map fun s => (s.length : Int)) (m := (t : Int)) (List.mem_map.mpr ⟨ch, hc, by rw [ht]⟩) fun x hx => by
    obtain ⟨s, hs, rfl⟩ := List.mem_map.mp hx
    have := hu s hs
    omega
  unfold lw_S6
  rw [set_is (e_call (rd_dn e7) mx)]
  rfl
theorem s7 (D : Dr n m c w b) (ht : t ≤ (ordL c m).length) (hf : (ordL c m).foldl (grS c b) ([], 0) = ([] ++ (ordL c m).take t, 0 + sm c ((ordL c m).take t))) (hs : srtI (((ordL c m).take t).map fun k : Nat => (k : Int)) = ch.map (fun k : Nat => (k : Int))) : lw_S7 [.un, .o .ow (.list (nums 30 n)), .v (.int (m : Int)), .v (fD c m), .v (fD w m), .v (.int b), .o .ow (.list ((allS m).map tpD)), .o .ow (.list (G.map tpD)), .v (.int (t : Int)), .un, .un, .un, .un, .un, .un, .un, .un, .un, .un, .un, .un, .un, .un, .un, .un, .un] = .nx [.un, .o .ow (.list (nums 30 n)), .v (.int (m : Int)), .v (fD c m), .v (fD w m), .v (.int b), .o .ow (.list ((allS m).map tpD)), .o .ow (.list (G.map tpD)), .v (.int (t : Int)), .v (.int (t : Int)), .v (tpD ch), .un, .un, .un, .un, .un, .un, .un, .un, .un, .un, .un, .un, .un, .un, .un] := by
  have mo := most_ok D.ok (m := m) (by have := D.m7; omega) D.b0.1 ht hf
  have et : PyData.tuple ((srtI (((ordL c m).take t).map fun k : Nat => (k : Int))).map .int) = tpD ch := by
    rw [hs, List.map_map]
    rfl
  rw [et] at mo
  have e : fz (eDef mf_most_flights (aCons (rd (eV 3)) (aCons (rd (eV 5)) aNil)) (dd_most_flights.drop 0)) [.un, .o .ow (.list (nums 30 n)), .v (.int (m : Int)), .v (fD c m), .v (fD w m), .v (.int b), .o .ow (.list ((allS m).map tpD)), .o .ow (.list (G.map tpD)), .v (.int (t : Int)), .un, .un, .un, .un, .un, .un, .un, .un, .un, .un, .un, .un, .un, .un, .un, .un, .un] = .ok (.tuple [.int (t : Int), tpD ch]) := by
    generalize fD c m = C at *
    generalize fD w m = W at *
    generalize nums 30 n = N at *
    generalize (allS m).map tpD = A at *
    generalize G.map tpD = A2 at *
    generalize tpD ch = T at *
    simp [-reduceCtorEq, eV, mo]
  unfold lw_S7 sAsg
  rw [e]
  rfl
theorem s8 (hm : m ≤ 7) : lw_S8 [.un, .o .ow (.list (nums 30 n)), .v (.int (m : Int)), .v (fD c m), .v (fD w m), .v (.int b), .o .ow (.list ((allS m).map tpD)), .o .ow (.list (G.map tpD)), .v (.int (t : Int)), .v (.int (t : Int)), .v (tpD ch), .un, .un, .un, .un, .un, .un, .un, .un, .un, .un, .un, .un, .un, .un, .un] = .nx [.un, .o .ow (.list (nums 30 n)), .v (.int (m : Int)), .v (fD c m), .v (fD w m), .v (.int b), .o .ow (.list ((allS m).map tpD)), .o .ow (.list (G.map tpD)), .v (.int (t : Int)), .v (.int (t : Int)), .v (tpD ch), .o .ow (.list (niL (ordL c m))), .un, .un, .un, .un, .un, .un, .un, .un, .un, .un, .un, .un, .un, .un] := by
  have e8 : lw_E8 [.un, .o .ow (.list (nums 30 n)), .v (.int (m : Int)), .v (fD c m), .v (fD w m), .v (.int b), .o .ow (.list ((allS m).map tpD)), .o .ow (.list (G.map tpD)), .v (.int (t : Int)), .v (.int (t : Int)), .v (tpD ch), .un, .un, .un, .un, .un, .un, .un, .un, .un, .un, .un, .un, .un, .un, .un] = .ok (dn (.list ((List.range m).map fun k => DL.prD (ckP c k)))) := by
    unfold lw_E8
    refine eLc_Nm (emb := fun k : Nat => PyData.int (k : Int)) (f := fun k => DL.prD (ckP c k)) (List.range m) (rg_hit hm rfl) rfl (lenOk.of (by rw [List.length_range]; omega)) fun k hk => ?_
    have hk : k < m := by simpa using hk
    have fx := f_ix c hk
    have lo := l2
    show fz _ [.un, .o .ow (.list (nums 30 n)), .v (.int (m : Int)), .v (fD c m), .v (fD w m), .v (.int b), .o .ow (.list ((allS m).map tpD)), .o .ow (.list (G.map tpD)), .v (.int (t : Int)), .v (.int (t : Int)), .v (tpD ch), .un, .un, .un, .un, .un, .un, .un, .un, .un, .v (.int (k : Int)), .un, .un, .un, .un, .un] = .ok (.tuple [.int (c k), .int (k : Int)])
    generalize fD c m = C at *
    generalize fD w m = W at *
    generalize nums 30 n = N at *
    generalize (allS m).map tpD = A at *
    generalize G.map tpD = A2 at *
    generalize tpD ch = T at *
    generalize c k = x at *
    simp [-reduceCtorEq, eV, fx, lo]
  have e9 : lw_E9 [.un, .o .ow (.list (nums 30 n)), .v (.int (m : Int)), .v (fD c m), .v (fD w m), .v (.int b), .o .ow (.list ((allS m).map tpD)), .o .ow (.list (G.map tpD)), .v (.int (t : Int)), .v (.int (t : Int)), .v (tpD ch), .un, .un, .un, .un, .un, .un, .un, .un, .un, .un, .un, .un, .un, .un, .un] = .ok (dn (.list ((ordL c m).map fun k => DL.prD (ckP c k)))) := by
    unfold lw_E9
    have so := so2_prs ((List.range m).map (ckP c))
    rw [List.map_map] at so
    have so : so2 ((List.range m).map fun k => DL.prD (ckP c k)) = true := so
    rw [eSortC_ok (iCo_l (rd_dn e8)) (lenOk.of (by rw [List.length_map, List.length_range]; omega)) so, ordR_f, sort_map (fun k => DL.prD (ckP c k)) (ckLe c) (fun a b => by rw [ordD_pr]; rfl) (List.range m)]
    rfl
  have e10 : lw_E10 [.un, .o .ow (.list (nums 30 n)), .v (.int (m : Int)), .v (fD c m), .v (fD w m), .v (.int b), .o .ow (.list ((allS m).map tpD)), .o .ow (.list (G.map tpD)), .v (.int (t : Int)), .v (.int (t : Int)), .v (tpD ch), .un, .un, .un, .un, .un, .un, .un, .un, .un, .un, .un, .un, .un, .un, .un] = .ok (dn (.list (niL (ordL c m)))) := by
    unfold lw_E10 niL
    refine eLc_Nm (emb := fun k => DL.prD (ckP c k)) (f := fun k : Nat => PyData.int (k : Int)) (ordL c m) ?_ rfl (lenOk.of (by rw [ord_len]; omega)) fun k hk => ?_
    · show (rd (lsFor _ _) _).bind itemsA = _
      have e4 : rd (lsFor lw_E9 []) [.un, .o .ow (.list (nums 30 n)), .v (.int (m : Int)), .v (fD c m), .v (fD w m), .v (.int b), .o .ow (.list ((allS m).map tpD)), .o .ow (.list (G.map tpD)), .v (.int (t : Int)), .v (.int (t : Int)), .v (tpD ch), .un, .un, .un, .un, .un, .un, .un, .un, .un, .un, .un, .un, .un, .un, .un] = .ok (.list ((ordL c m).map fun k => DL.prD (ckP c k))) := by
        generalize lw_E9 = E at *
        generalize fD c m = C at *
        generalize fD w m = W at *
        generalize nums 30 n = N at *
        generalize (allS m).map tpD = A at *
        generalize G.map tpD = A2 at *
        generalize tpD ch = T at *
        simp [-reduceCtorEq, lsFor, e9, okSl]
      rw [e4]
      rfl
    · have i1 : ixD (DL.prD (ckP c k)) (.int 1) = some (dv (.int (k : Int))) := rfl
      show fz _ [.un, .o .ow (.list (nums 30 n)), .v (.int (m : Int)), .v (fD c m), .v (fD w m), .v (.int b), .o .ow (.list ((allS m).map tpD)), .o .ow (.list (G.map tpD)), .v (.int (t : Int)), .v (.int (t : Int)), .v (tpD ch), .un, .un, .un, .un, .un, .un, .un, .un, .un, .un, .un, .un, .un, .un, .v (DL.prD (ckP c k))] = .ok (.int (k : Int))
      generalize DL.prD (ckP c k) = P at *
      generalize fD c m = C at *
      generalize fD w m = W at *
      generalize nums 30 n = N at *
      generalize (allS m).map tpD = A at *
      generalize G.map tpD = A2 at *
      generalize tpD ch = T at *
      simp [-reduceCtorEq, eV, i1]
  unfold lw_S8
  rw [set_is e10]
  rfl
theorem nin_tp (s : List Nat) (G : List (List Nat)) : ninD (tpD s) (.list (G.map tpD)) = some (dv (.bool (!decide (s ∈ G)))) := by
  have f : fit 60 (.list (G.map tpD)) = true := fit_lst fun z hz => by
    obtain ⟨k, _, rfl⟩ := List.mem_map.mp hz
    exact fit_tp 58 k
  show (if fit 60 (tpD s) = true ∧ fit 60 (.list (G.map tpD)) = true then some (dv (.bool (!(G.map tpD).any fun z => PyData.eqv z (tpD s)))) else none) = _
  rw [if_pos ⟨fit_tp 59 s, f⟩]
  congr 4
  clear f
  induction G with
  | nil => rfl
  | cons y l ih =>
    rw [List.map_cons, List.any_cons, eqv_tp, ih]
    by_cases h : y = s
    · subst h; simp
    · have : ¬ s = y := fun z => h z.symm
      simp [h, this]
theorem s9 (hm : m ≤ 7) (ht : t ≤ (ordL c m).length) (hs : srtI (((ordL c m).take t).map fun k : Nat => (k : Int)) = ch.map (fun k : Nat => (k : Int))) (hc : ch ∈ G) : lw_S9 [.un, .o .ow (.list (nums 30 n)), .v (.int (m : Int)), .v (fD c m), .v (fD w m), .v (.int b), .o .ow (.list ((allS m).map tpD)), .o .ow (.list (G.map tpD)), .v (.int (t : Int)), .v (.int (t : Int)), .v (tpD ch), .o .ow (.list (niL (ordL c m))), .un, .un, .un, .un, .un, .un, .un, .un, .un, .un, .un, .un, .un, .un] = .nx [.un, .o .ow (.list (nums 30 n)), .v (.int (m : Int)), .v (fD c m), .v (fD w m), .v (.int b), .o .ow (.list ((allS m).map tpD)), .o .ow (.list (G.map tpD)), .v (.int (t : Int)), .v (.int (t : Int)), .v (tpD ch), .o .ow (.list (niL (ordL c m))), .un, .un, .un, .un, .un, .un, .un, .un, .un, .un, .un, .un, .un, .un] := by
  have ol := ord_len (c := c) m
  have cu : cutD none (some (t : Int)) (.list (niL (ordL c m))) = some (dn (.list (niL ((ordL c m).take t)))) := by
    show some (dn (.list (cutL (niL (ordL c m)) none (some (t : Int))))) = _
    have nl : (niL (ordL c m)).length = m := by unfold niL; rw [List.length_map, ol]
    have q := cut_nat (l := niL (ordL c m)) (a := 0) (b := t) (by omega) (by omega)
    have e : cutL (niL (ordL c m)) none (some (t : Int)) = cutL (niL (ordL c m)) (some ((0 : Nat) : Int)) (some (t : Int)) := by
      unfold cutL
      have : HT.sIx (niL (ordL c m)).length 0 (some ((0 : Nat) : Int)) = HT.sIx (niL (ordL c m)).length 0 none := by
        unfold HT.sIx; simp
      rw [this]
    rw [e, q, List.drop_zero, Nat.sub_zero]
    unfold niL
    rw [List.map_take]
  have ec : rd (eCut (rd (eV 11)) pNone (pSome (rd (eV 8)))) [.un, .o .ow (.list (nums 30 n)), .v (.int (m : Int)), .v (fD c m), .v (fD w m), .v (.int b), .o .ow (.list ((allS m).map tpD)), .o .ow (.list (G.map tpD)), .v (.int (t : Int)), .v (.int (t : Int)), .v (tpD ch), .o .ow (.list (niL (ordL c m))), .un, .un, .un, .un, .un, .un, .un, .un, .un, .un, .un, .un, .un, .un] = .ok (.list ((((ordL c m).take t).map fun k : Nat => (k : Int)).map .int)) := by
    rw [← ni_is]
    generalize niL ((ordL c m).take t) = Y at *
    generalize niL (ordL c m) = V at *
    generalize fD c m = C at *
    generalize fD w m = W at *
    generalize nums 30 n = N at *
    generalize (allS m).map tpD = A at *
    generalize G.map tpD = A2 at *
    generalize tpD ch = T at *
    simp [-reduceCtorEq, eV, eCut, pNone, pSome, cu]
  have e11 : rd lw_E11 [.un, .o .ow (.list (nums 30 n)), .v (.int (m : Int)), .v (fD c m), .v (fD w m), .v (.int b), .o .ow (.list ((allS m).map tpD)), .o .ow (.list (G.map tpD)), .v (.int (t : Int)), .v (.int (t : Int)), .v (tpD ch), .o .ow (.list (niL (ordL c m))), .un, .un, .un, .un, .un, .un, .un, .un, .un, .un, .un, .un, .un, .un] = .ok (.list ((ch.map (fun k : Nat => (k : Int))).map .int)) := by
    rw [← hs]
    exact rd_dn (eSortC_ints (iCo_l ec) (lenOk.of (by rw [List.length_map, List.length_take]; omega)))
  have e12 : rd (eCall tupleD (aCons (rd lw_E11) aNil)) [.un, .o .ow (.list (nums 30 n)), .v (.int (m : Int)), .v (fD c m), .v (fD w m), .v (.int b), .o .ow (.list ((allS m).map tpD)), .o .ow (.list (G.map tpD)), .v (.int (t : Int)), .v (.int (t : Int)), .v (tpD ch), .o .ow (.list (niL (ordL c m))), .un, .un, .un, .un, .un, .un, .un, .un, .un, .un, .un, .un, .un, .un] = .ok (tpD ch) := by
    have : tpD ch = .tuple ((ch.map (fun k : Nat => (k : Int))).map .int) := by
      rw [List.map_map]
      rfl
    exact (rd_call e11 rfl).trans (congrArg Rs.ok this.symm)
  have nn := nin_tp ch G
  rw [decide_eq_true hc] at nn
  unfold lw_S9
  refine if_no (or_no (ne_no (d := .int (t : Int)) rfl rfl rfl) (or_no (ne_no (d := tpD ch) rfl e12 (fit_tp 59 ch)) ?_)) rfl
  generalize niL (ordL c m) = V at *
  generalize fD c m = C at *
  generalize fD w m = W at *
  generalize nums 30 n = N at *
  generalize (allS m).map tpD = A at *
  generalize G.map tpD = A2 at *
  generalize tpD ch = T at *
  simp [-reduceCtorEq, eV, nn]
end
end LW
namespace LW
open PySem PySem.Spec PyProof.Rows L2 DL
section
variable {n : Nat → Int} {m : Nat} {c w : Nat → Int} {b : Int} {G : List (List Nat)} {t : Nat} {ch bs fr re : List Nat} {tl vl : Int × Int} {lf : Int}
section
open PySem.W
theorem depth_K3 : ∀ l : List (List Nat), PyData.depthAll (l.map (K3 w)) ≤ 60
  | [] => by simp [PyData.depthAll]
  | s :: l => by
    have ih := depth_K3 l
    have := depth_nats s
    rw [List.map_cons]
    simp only [PyData.depthAll, K3, tpD, PyData.depth] at *
    refine Nat.max_le.mpr ⟨?_, ih⟩
    omega
theorem al2_K3 (l : List (List Nat)) : al2 (l.map (K3 w)) = true := by
  unfold al2
  simp only [Bool.and_eq_true, List.all_eq_true, List.mem_map, decide_eq_true_eq]
  refine ⟨⟨?_, ?_⟩, depth_K3 l⟩
  · rintro _ ⟨p, _, rfl⟩ _ ⟨q, _, rfl⟩
    exact alike_K3 p q
  · rintro _ ⟨p, _, rfl⟩
    rfl
theorem minD_K3 : ∀ (l : List (List Nat)) (x : List Nat), minD (K3 w x) (l.map (K3 w)) = K3 w (mn3 w x l)
  | [], _ => rfl
  | y :: l, x => by
    have ih := minD_K3 l (if lt3 w y x = true then y else x)
    unfold minD at *
    rw [List.map_cons, List.foldl_cons, dataLt_K3]
    show _ = K3 w (mn3 w (if lt3 w y x = true then y else x) l)
    rw [← ih]
    split <;> rfl
theorem keys_min {x : List Nat} {r : List (List Nat)} : pickAD minD [.list ((x :: r).map (K3 w))] = some (dv (K3 w (mn3 w x r))) := by
  show (if al2 ((x :: r).map (K3 w)) = true then some (dv (minD (K3 w x) (r.map (K3 w)))) else none) = _
  rw [if_pos (al2_K3 _), minD_K3]
end
theorem s10 (hm : m ≤ 7) (hG : G = gdS c b m) : lw_S10 [.un, .o .ow (.list (nums 30 n)), .v (.int (m : Int)), .v (fD c m), .v (fD w m), .v (.int b), .o .ow (.list ((allS m).map tpD)), .o .ow (.list (G.map tpD)), .v (.int (t : Int)), .v (.int (t : Int)), .v (tpD ch), .o .ow (.list (niL (ordL c m))), .un, .un, .un, .un, .un, .un, .un, .un, .un, .un, .un, .un, .un, .un] = .nx [.un, .o .ow (.list (nums 30 n)), .v (.int (m : Int)), .v (fD c m), .v (fD w m), .v (.int b), .o .ow (.list ((allS m).map tpD)), .o .ow (.list (G.map tpD)), .v (.int (t : Int)), .v (.int (t : Int)), .v (tpD ch), .o .ow (.list (niL (ordL c m))), .o .ow (.list (G.map (K3 w))), .un, .un, .un, .un, .un, .un, .un, .un, .un, .un, .un, .un, .un] := by
  have gl : G.length ≤ 128 := by rw [hG]; exact gd_len hm
  have e13 : lw_E13 [.un, .o .ow (.list (nums 30 n)), .v (.int (m : Int)), .v (fD c m), .v (fD w m), .v (.int b), .o .ow (.list ((allS m).map tpD)), .o .ow (.list (G.map tpD)), .v (.int (t : Int)), .v (.int (t : Int)), .v (tpD ch), .o .ow (.list (niL (ordL c m))), .un, .un, .un, .un, .un, .un, .un, .un, .un, .un, .un, .un, .un, .un] = .ok (dn (.list (G.map (K3 w)))) := by
    unfold lw_E13
    refine eLc_Nm (emb := tpD) (f := K3 w) G rfl rfl (lenOk.of (by omega)) fun s hs => ?_
    have gr := gd_row (by rw [← hG]; exact hs)
    have e12 : lw_E12 [.un, .o .ow (.list (nums 30 n)), .v (.int (m : Int)), .v (fD c m), .v (fD w m), .v (.int b), .o .ow (.list ((allS m).map tpD)), .o .ow (.list (G.map tpD)), .v (.int (t : Int)), .v (.int (t : Int)), .v (tpD ch), .o .ow (.list (niL (ordL c m))), .un, .un, .un, .un, .un, .un, .un, .un, .un, .un, .un, .un, .v (tpD s), .un] = .ok (dn (.list ((s.map w).map .int))) := by
      unfold lw_E12
      rw [List.map_map]
      refine eLc_Nm (emb := fun k : Nat => PyData.int (k : Int)) (f := PyData.int ∘ w) s rfl rfl (lenOk.of (by have := gr.2.2; omega)) fun k hk => ?_
      have fx := f_ix w (gr.2.1 k hk)
      show fz _ [.un, .o .ow (.list (nums 30 n)), .v (.int (m : Int)), .v (fD c m), .v (fD w m), .v (.int b), .o .ow (.list ((allS m).map tpD)), .o .ow (.list (G.map tpD)), .v (.int (t : Int)), .v (.int (t : Int)), .v (tpD ch), .o .ow (.list (niL (ordL c m))), .un, .un, .un, .un, .un, .un, .un, .un, .v (.int (k : Int)), .un, .un, .un, .v (tpD s), .un] = .ok (.int (w k))
      generalize niL (ordL c m) = V at *
      generalize fD c m = C at *
      generalize fD w m = W at *
      generalize nums 30 n = N at *
      generalize (allS m).map tpD = A at *
      generalize G.map tpD = A2 at *
      generalize tpD ch = T at *
      generalize tpD s = T2 at *
      generalize w k = x at *
      simp [-reduceCtorEq, eV, fx]
    have e12' : rd (eCall sumAD (aCons (rd lw_E12) aNil)) [.un, .o .ow (.list (nums 30 n)), .v (.int (m : Int)), .v (fD c m), .v (fD w m), .v (.int b), .o .ow (.list ((allS m).map tpD)), .o .ow (.list (G.map tpD)), .v (.int (t : Int)), .v (.int (t : Int)), .v (tpD ch), .o .ow (.list (niL (ordL c m))), .un, .un, .un, .un, .un, .un, .un, .un, .un, .un, .un, .un, .v (tpD s), .un] = .ok (.int (sm w s)) := rd_call (rd_dn e12) (sumL _)
    have x := tp_len s
    have l3 : lenOk 3 := lenOk.of (by omega)
    have ek : K3 w s = .tuple [.int (0 - sm w s), .int (s.length : Int), tpD s] := by unfold K3; rw [Int.zero_sub]
    show fz _ [.un, .o .ow (.list (nums 30 n)), .v (.int (m : Int)), .v (fD c m), .v (fD w m), .v (.int b), .o .ow (.list ((allS m).map tpD)), .o .ow (.list (G.map tpD)), .v (.int (t : Int)), .v (.int (t : Int)), .v (tpD ch), .o .ow (.list (niL (ordL c m))), .un, .un, .un, .un, .un, .un, .un, .un, .un, .un, .un, .un, .v (tpD s), .un] = .ok (K3 w s)
    rw [ek]
    generalize rd (eCall sumAD (aCons (rd lw_E12) aNil)) = Q at *
    generalize niL (ordL c m) = V at *
    generalize fD c m = C at *
    generalize fD w m = W at *
    generalize nums 30 n = N at *
    generalize (allS m).map tpD = A at *
    generalize G.map tpD = A2 at *
    generalize tpD ch = T at *
    generalize tpD s = T2 at *
    have sb : subD (.int 0) (.int (sm w s)) = some (dv (.int (0 - sm w s))) := rfl
    generalize 0 - sm w s = u at *
    generalize sm w s = v at *
    generalize (s.length : Int) = L at *
    generalize subD = SB at *
    simp [-reduceCtorEq, eV, e12', x, l3, sb]
  unfold lw_S10
  rw [set_is e13]
  rfl
theorem s11 (D : Dr n m c w b) {x : List Nat} {r : List (List Nat)} (hG : gdS c b m = x :: r) (hGG : G = gdS c b m) (hbs : bs = mn3 w x r) : lw_S11 [.un, .o .ow (.list (nums 30 n)), .v (.int (m : Int)), .v (fD c m), .v (fD w m), .v (.int b), .o .ow (.list ((allS m).map tpD)), .o .ow (.list (G.map tpD)), .v (.int (t : Int)), .v (.int (t : Int)), .v (tpD ch), .o .ow (.list (niL (ordL c m))), .o .ow (.list (G.map (K3 w))), .un, .un, .un, .un, .un, .un, .un, .un, .un, .un, .un, .un, .un] = .nx [.un, .o .ow (.list (nums 30 n)), .v (.int (m : Int)), .v (fD c m), .v (fD w m), .v (.int b), .o .ow (.list ((allS m).map tpD)), .o .ow (.list (G.map tpD)), .v (.int (t : Int)), .v (.int (t : Int)), .v (tpD ch), .o .ow (.list (niL (ordL c m))), .o .ow (.list (G.map (K3 w))), .un, .un, .un, .un, .un, .un, .un, .un, .un, .un, .un, .un, .un] := by
  have hm := D.m7
  have wo := worth_ok D.ok (m := m) (by omega) D.b0.1 (bwO_none w c b (allS m) x r hG)
  rw [← hbs] at wo
  have km := keys_min (w := w) (x := x) (r := r)
  rw [← hG, ← hbs, ← hGG] at km
  have k0 : ixD (K3 w bs) (.int 0) = some (dv (.int (-(sm w bs)))) := rfl
  have k2 : ixD (K3 w bs) (.int 2) = some (dv (tpD bs)) := rfl
  have ft : fit 60 (.tuple [.int (sm w bs), tpD bs]) = true := by
    show ([PyData.int (sm w bs), tpD bs].all (fit 59)) = true
    simp only [List.all_cons, List.all_nil, Bool.and_true, Bool.and_eq_true]
    exact ⟨rfl, fit_tp 58 bs⟩
  have lo := l2
  unfold lw_S11
  refine if_no (ne_no (d := .tuple [.int (sm w bs), tpD bs]) ?_ ?_ ft) rfl
  · generalize niL (ordL c m) = V at *
    generalize fD c m = C at *
    generalize fD w m = W at *
    generalize nums 30 n = N at *
    generalize (allS m).map tpD = A at *
    generalize G.map tpD = A2 at *
    generalize G.map (K3 w) = A3 at *
    generalize tpD ch = T at *
    generalize tpD bs = T2 at *
    simp [-reduceCtorEq, eV, wo]
  · have km' : rd (eCall (pickAD PySem.W.minD) (aCons (rd (eV 12)) aNil)) [.un, .o .ow (.list (nums 30 n)), .v (.int (m : Int)), .v (fD c m), .v (fD w m), .v (.int b), .o .ow (.list ((allS m).map tpD)), .o .ow (.list (G.map tpD)), .v (.int (t : Int)), .v (.int (t : Int)), .v (tpD ch), .o .ow (.list (niL (ordL c m))), .o .ow (.list (G.map (K3 w))), .un, .un, .un, .un, .un, .un, .un, .un, .un, .un, .un, .un, .un] = .ok (K3 w bs) := rd_call rfl km
    generalize rd (eCall (pickAD PySem.W.minD) (aCons (rd (eV 12)) aNil)) = Q at *
    generalize K3 w bs = K at *
    generalize niL (ordL c m) = V at *
    generalize fD c m = C at *
    generalize fD w m = W at *
    generalize nums 30 n = N at *
    generalize (allS m).map tpD = A at *
    generalize G.map tpD = A2 at *
    generalize G.map (K3 w) = A3 at *
    generalize tpD ch = T at *
    generalize tpD bs = T2 at *
    simp [-reduceCtorEq, eV, km', k0, k2, lo]
theorem s12 {x : List Nat} {r : List (List Nat)} (hG : G = x :: r) (hbs : bs = mn3 w x r) : lw_S12 [.un, .o .ow (.list (nums 30 n)), .v (.int (m : Int)), .v (fD c m), .v (fD w m), .v (.int b), .o .ow (.list ((allS m).map tpD)), .o .ow (.list (G.map tpD)), .v (.int (t : Int)), .v (.int (t : Int)), .v (tpD ch), .o .ow (.list (niL (ordL c m))), .o .ow (.list (G.map (K3 w))), .un, .un, .un, .un, .un, .un, .un, .un, .un, .un, .un, .un, .un] = .nx [.un, .o .ow (.list (nums 30 n)), .v (.int (m : Int)), .v (fD c m), .v (fD w m), .v (.int b), .o .ow (.list ((allS m).map tpD)), .o .ow (.list (G.map tpD)), .v (.int (t : Int)), .v (.int (t : Int)), .v (tpD ch), .o .ow (.list (niL (ordL c m))), .o .ow (.list (G.map (K3 w))), .v (.int (sm w bs)), .un, .un, .un, .un, .un, .un, .un, .un, .un, .un, .un, .un] := by
  have km := keys_min (w := w) (x := x) (r := r)
  rw [← hbs, ← hG] at km
  have k0 : ixD (K3 w bs) (.int 0) = some (dv (.int (-(sm w bs)))) := rfl
  have km' : rd (eCall (pickAD PySem.W.minD) (aCons (rd (eV 12)) aNil)) [.un, .o .ow (.list (nums 30 n)), .v (.int (m : Int)), .v (fD c m), .v (fD w m), .v (.int b), .o .ow (.list ((allS m).map tpD)), .o .ow (.list (G.map tpD)), .v (.int (t : Int)), .v (.int (t : Int)), .v (tpD ch), .o .ow (.list (niL (ordL c m))), .o .ow (.list (G.map (K3 w))), .un, .un, .un, .un, .un, .un, .un, .un, .un, .un, .un, .un, .un] = .ok (K3 w bs) := rd_call rfl km
  unfold lw_S12
  generalize rd (eCall (pickAD PySem.W.minD) (aCons (rd (eV 12)) aNil)) = Q at *
  generalize K3 w bs = K at *
  generalize niL (ordL c m) = V at *
  generalize fD c m = C at *
  generalize fD w m = W at *
  generalize nums 30 n = N at *
  generalize (allS m).map tpD = A at *
  generalize G.map tpD = A2 at *
  generalize G.map (K3 w) = A3 at *
  generalize tpD ch = T at *
  simp [-reduceCtorEq, eV, km', k0, asg]
theorem s13 (D : Dr n m c w b) (ht : tl = lowF (runW w c (0, 1, b) (srtR w c (List.range m))).1 (runW w c (0, 1, b) (srtR w c (List.range m))).2.1) : lw_S13 [.un, .o .ow (.list (nums 30 n)), .v (.int (m : Int)), .v (fD c m), .v (fD w m), .v (.int b), .o .ow (.list ((allS m).map tpD)), .o .ow (.list (G.map tpD)), .v (.int (t : Int)), .v (.int (t : Int)), .v (tpD ch), .o .ow (.list (niL (ordL c m))), .o .ow (.list (G.map (K3 w))), .v (.int (sm w bs)), .un, .un, .un, .un, .un, .un, .un, .un, .un, .un, .un, .un] = .nx [.un, .o .ow (.list (nums 30 n)), .v (.int (m : Int)), .v (fD c m), .v (fD w m), .v (.int b), .o .ow (.list ((allS m).map tpD)), .o .ow (.list (G.map tpD)), .v (.int (t : Int)), .v (.int (t : Int)), .v (tpD ch), .o .ow (.list (niL (ordL c m))), .o .ow (.list (G.map (K3 w))), .v (.int (sm w bs)), .v (DL.prD tl), .un, .un, .un, .un, .un, .un, .un, .un, .un, .un, .un] := by
  have bo := bound_ok D.ok (m := m) (by have := D.m7; omega) (b := b) (by have := D.b0; omega)
  rw [← ht] at bo
  unfold lw_S13
  generalize DL.prD tl = P at *
  generalize niL (ordL c m) = V at *
  generalize fD c m = C at *
  generalize fD w m = W at *
  generalize nums 30 n = N at *
  generalize (allS m).map tpD = A at *
  generalize G.map tpD = A2 at *
  generalize G.map (K3 w) = A3 at *
  generalize tpD ch = T at *
  simp [-reduceCtorEq, eV, bo, asg]
theorem max_ex : ∀ (l : List Int) (x : Int), ∃ M ∈ x :: l, ∀ y ∈ x :: l, y ≤ M
  | [], x => ⟨x, by simp, by simp⟩
  | z :: l, x => by
    obtain ⟨M, h1, h2⟩ := max_ex l z
    by_cases h : x ≤ M
    · exact ⟨M, List.mem_cons_of_mem _ h1, fun y hy => by
        rcases List.mem_cons.mp hy with e | hy
        · rw [e]; exact h
        · exact h2 y hy⟩
    · exact ⟨x, List.mem_cons_self, fun y hy => by
        rcases List.mem_cons.mp hy with e | hy
        · rw [e]; exact Int.le_refl _
        · have := h2 y hy; omega⟩
theorem s14 (h : WOk w c) (hm : m ≤ 7) {M : Int} (hM1 : M ∈ (0 : Int) :: (List.range m).map w) (hM2 : ∀ y ∈ (0 : Int) :: (List.range m).map w, y ≤ M) (t0 : 0 < tl.2) (t1 : tl.2 ≤ 11) (tt : lowF tl.1 tl.2 = tl) (g1 : sm w bs * tl.2 ≤ tl.1) (g2 : tl.1 ≤ (sm w bs + M) * tl.2) : lw_S14 [.un, .o .ow (.list (nums 30 n)), .v (.int (m : Int)), .v (fD c m), .v (fD w m), .v (.int b), .o .ow (.list ((allS m).map tpD)), .o .ow (.list (G.map tpD)), .v (.int (t : Int)), .v (.int (t : Int)), .v (tpD ch), .o .ow (.list (niL (ordL c m))), .o .ow (.list (G.map (K3 w))), .v (.int (sm w bs)), .v (DL.prD tl), .un, .un, .un, .un, .un, .un, .un, .un, .un, .un, .un] = .nx [.un, .o .ow (.list (nums 30 n)), .v (.int (m : Int)), .v (fD c m), .v (fD w m), .v (.int b), .o .ow (.list ((allS m).map tpD)), .o .ow (.list (G.map tpD)), .v (.int (t : Int)), .v (.int (t : Int)), .v (tpD ch), .o .ow (.list (niL (ordL c m))), .o .ow (.list (G.map (K3 w))), .v (.int (sm w bs)), .v (DL.prD tl), .un, .un, .un, .un, .un, .un, .un, .un, .un, .un, .un] := by
  have ll := law_low_ok (t := tl.1) (b := tl.2) t0 (by omega)
  rw [tt] at ll
  have i0 := p_i0 tl
  have i1 := p_i1 tl
  have m1 : mulD (.int (sm w bs)) (.int tl.2) = some (dv (.int (sm w bs * tl.2))) := mulD_i _ _ (.inr (by omega))
  have m2 : mulD (.int (sm w bs + M)) (.int tl.2) = some (dv (.int ((sm w bs + M) * tl.2))) := mulD_i _ _ (.inr (by omega))
  have ad : addD (.tuple [.int 0]) (fD w m) = some (dv (.tuple (((0 : Int) :: (List.range m).map w).map .int))) := by
    show (if lenOk (1 + ((List.range m).map fun k => PyData.int (w k)).length) then some (dv (.tuple ([PyData.int 0] ++ (List.range m).map fun k => PyData.int (w k)))) else none) = _
    rw [if_pos (lenOk.of (by rw [List.length_map, List.length_range]; omega)), List.map_cons, List.map_map]
    rfl
  have mx : pickAD PySem.W.maxD [.tuple (((0 : Int) :: (List.range m).map w).map .int)] = some (dv (.int M)) := by
    have := max_ints hM1 hM2
    exact this
  have l1 : lenOk 1 := lenOk.of (by omega)
  have ea : rd (eB addD (rd (eTup (aCons (fz (eC (.int 0))) aNil))) (rd (eV 4))) [.un, .o .ow (.list (nums 30 n)), .v (.int (m : Int)), .v (fD c m), .v (fD w m), .v (.int b), .o .ow (.list ((allS m).map tpD)), .o .ow (.list (G.map tpD)), .v (.int (t : Int)), .v (.int (t : Int)), .v (tpD ch), .o .ow (.list (niL (ordL c m))), .o .ow (.list (G.map (K3 w))), .v (.int (sm w bs)), .v (DL.prD tl), .un, .un, .un, .un, .un, .un, .un, .un, .un, .un, .un] = .ok (.tuple (((0 : Int) :: (List.range m).map w).map .int)) := by
    generalize DL.prD tl = P at *
    generalize (((0 : Int) :: (List.range m).map w).map PyData.int) = Y at *
    generalize niL (ordL c m) = V at *
    generalize fD c m = C at *
    generalize fD w m = W at *
    generalize nums 30 n = N at *
    generalize (allS m).map tpD = A at *
    generalize G.map tpD = A2 at *
    generalize G.map (K3 w) = A3 at *
    generalize tpD ch = T at *
    simp [-reduceCtorEq, eV, ad, l1]
  have em : rd (eCall (pickAD PySem.W.maxD) (aCons (rd (eB addD (rd (eTup (aCons (fz (eC (.int 0))) aNil))) (rd (eV 4)))) aNil)) [.un, .o .ow (.list (nums 30 n)), .v (.int (m : Int)), .v (fD c m), .v (fD w m), .v (.int b), .o .ow (.list ((allS m).map tpD)), .o .ow (.list (G.map tpD)), .v (.int (t : Int)), .v (.int (t : Int)), .v (tpD ch), .o .ow (.list (niL (ordL c m))), .o .ow (.list (G.map (K3 w))), .v (.int (sm w bs)), .v (DL.prD tl), .un, .un, .un, .un, .un, .un, .un, .un, .un, .un, .un] = .ok (.int M) := rd_call ea mx
  have n1 : ¬ tl.1 < sm w bs * tl.2 := by omega
  have n2 : ¬ (sm w bs + M) * tl.2 < tl.1 := by omega
  unfold lw_S14
  refine if_no (or_no (ne_no (d := DL.prD tl) ?_ rfl rfl) (or_no ?_ ?_)) rfl
  · generalize DL.prD tl = P at *
    generalize niL (ordL c m) = V at *
    generalize fD c m = C at *
    generalize fD w m = W at *
    generalize nums 30 n = N at *
    generalize (allS m).map tpD = A at *
    generalize G.map tpD = A2 at *
    generalize G.map (K3 w) = A3 at *
    generalize tpD ch = T at *
    generalize tl.1 = x at *
    generalize tl.2 = y at *
    simp [-reduceCtorEq, eV, i0, i1, ll]
  · generalize DL.prD tl = P at *
    generalize niL (ordL c m) = V at *
    generalize fD c m = C at *
    generalize fD w m = W at *
    generalize nums 30 n = N at *
    generalize (allS m).map tpD = A at *
    generalize G.map tpD = A2 at *
    generalize G.map (K3 w) = A3 at *
    generalize tpD ch = T at *
    generalize sm w bs * tl.2 = q at *
    generalize sm w bs = B at *
    generalize tl.1 = x at *
    generalize tl.2 = y at *
    simp [-reduceCtorEq, eV, i0, i1, m1, n1]
  · generalize rd (eCall (pickAD PySem.W.maxD) (aCons (rd (eB addD (rd (eTup (aCons (fz (eC (.int 0))) aNil))) (rd (eV 4)))) aNil)) = Q at *
    generalize DL.prD tl = P at *
    generalize niL (ordL c m) = V at *
    generalize fD c m = C at *
    generalize fD w m = W at *
    generalize nums 30 n = N at *
    generalize (allS m).map tpD = A at *
    generalize G.map tpD = A2 at *
    generalize G.map (K3 w) = A3 at *
    generalize tpD ch = T at *
    generalize (sm w bs + M) * tl.2 = q at *
    have sa : addD (.int (sm w bs)) (.int M) = some (dv (.int (sm w bs + M))) := rfl
    generalize sm w bs + M = u at *
    generalize sm w bs = B at *
    generalize tl.1 = x at *
    generalize tl.2 = y at *
    generalize addD = AD at *
    simp [-reduceCtorEq, eV, i0, i1, m2, em, sa, n2]
theorem s15 (hm : m ≤ 7) (hf : fr = (List.range m).filter fun k => decide (c k = 0)) : lw_S15 [.un, .o .ow (.list (nums 30 n)), .v (.int (m : Int)), .v (fD c m), .v (fD w m), .v (.int b), .o .ow (.list ((allS m).map tpD)), .o .ow (.list (G.map tpD)), .v (.int (t : Int)), .v (.int (t : Int)), .v (tpD ch), .o .ow (.list (niL (ordL c m))), .o .ow (.list (G.map (K3 w))), .v (.int (sm w bs)), .v (DL.prD tl), .un, .un, .un, .un, .un, .un, .un, .un, .un, .un, .un] = .nx [.un, .o .ow (.list (nums 30 n)), .v (.int (m : Int)), .v (fD c m), .v (fD w m), .v (.int b), .o .ow (.list ((allS m).map tpD)), .o .ow (.list (G.map tpD)), .v (.int (t : Int)), .v (.int (t : Int)), .v (tpD ch), .o .ow (.list (niL (ordL c m))), .o .ow (.list (G.map (K3 w))), .v (.int (sm w bs)), .v (DL.prD tl), .o .ow (.list (niL fr)), .un, .un, .un, .un, .un, .un, .un, .un, .un, .un] := by
  have e14 : lw_E14 [.un, .o .ow (.list (nums 30 n)), .v (.int (m : Int)), .v (fD c m), .v (fD w m), .v (.int b), .o .ow (.list ((allS m).map tpD)), .o .ow (.list (G.map tpD)), .v (.int (t : Int)), .v (.int (t : Int)), .v (tpD ch), .o .ow (.list (niL (ordL c m))), .o .ow (.list (G.map (K3 w))), .v (.int (sm w bs)), .v (DL.prD tl), .un, .un, .un, .un, .un, .un, .un, .un, .un, .un, .un] = .ok (dn (.list (niL fr))) := by
    rw [hf]
    unfold lw_E14 niL
    refine eLc_N (emb := fun k : Nat => PyData.int (k : Int)) (f := fun k : Nat => PyData.int (k : Int)) (p := fun k => decide (c k = 0)) (List.range m) (rg_hit hm rfl) rfl (lenOk.of (by rw [List.length_range]; omega)) fun k hk => ⟨?_, fun _ => rfl⟩
    have hk : k < m := by simpa using hk
    have fx := f_ix c hk
    have eq : eqD (.int (c k)) (.int 0) = some (dv (.bool (decide (c k = 0)))) := by
      unfold eqD
      rw [if_pos ⟨rfl, rfl⟩, eqv_i]
    show sV _ [.un, .o .ow (.list (nums 30 n)), .v (.int (m : Int)), .v (fD c m), .v (fD w m), .v (.int b), .o .ow (.list ((allS m).map tpD)), .o .ow (.list (G.map tpD)), .v (.int (t : Int)), .v (.int (t : Int)), .v (tpD ch), .o .ow (.list (niL (ordL c m))), .o .ow (.list (G.map (K3 w))), .v (.int (sm w bs)), .v (DL.prD tl), .un, .un, .un, .un, .un, .v (.int (k : Int)), .un, .un, .un, .un, .un] = _
    generalize DL.prD tl = P at *
    generalize niL (ordL c m) = V at *
    generalize fD c m = C at *
    generalize fD w m = W at *
    generalize nums 30 n = N at *
    generalize (allS m).map tpD = A at *
    generalize G.map tpD = A2 at *
    generalize G.map (K3 w) = A3 at *
    generalize tpD ch = T at *
    generalize decide (c k = 0) = d at *
    generalize c k = x at *
    simp [-reduceCtorEq, eV, fx, eq]
  unfold lw_S15
  rw [set_is e14]
  rfl
theorem s16 (hm : m ≤ 7) (hr : re = (List.range m).filter (fin c)) : lw_S16 [.un, .o .ow (.list (nums 30 n)), .v (.int (m : Int)), .v (fD c m), .v (fD w m), .v (.int b), .o .ow (.list ((allS m).map tpD)), .o .ow (.list (G.map tpD)), .v (.int (t : Int)), .v (.int (t : Int)), .v (tpD ch), .o .ow (.list (niL (ordL c m))), .o .ow (.list (G.map (K3 w))), .v (.int (sm w bs)), .v (DL.prD tl), .o .ow (.list (niL fr)), .un, .un, .un, .un, .un, .un, .un, .un, .un, .un] = .nx [.un, .o .ow (.list (nums 30 n)), .v (.int (m : Int)), .v (fD c m), .v (fD w m), .v (.int b), .o .ow (.list ((allS m).map tpD)), .o .ow (.list (G.map tpD)), .v (.int (t : Int)), .v (.int (t : Int)), .v (tpD ch), .o .ow (.list (niL (ordL c m))), .o .ow (.list (G.map (K3 w))), .v (.int (sm w bs)), .v (DL.prD tl), .o .ow (.list (niL fr)), .o .ow (.list (niL re)), .un, .un, .un, .un, .un, .un, .un, .un, .un] := by
  have e15 : lw_E15 [.un, .o .ow (.list (nums 30 n)), .v (.int (m : Int)), .v (fD c m), .v (fD w m), .v (.int b), .o .ow (.list ((allS m).map tpD)), .o .ow (.list (G.map tpD)), .v (.int (t : Int)), .v (.int (t : Int)), .v (tpD ch), .o .ow (.list (niL (ordL c m))), .o .ow (.list (G.map (K3 w))), .v (.int (sm w bs)), .v (DL.prD tl), .o .ow (.list (niL fr)), .un, .un, .un, .un, .un, .un, .un, .un, .un, .un] = .ok (dn (.list (niL re))) := by
    rw [hr]
    unfold lw_E15 niL
    refine eLc_N (emb := fun k : Nat => PyData.int (k : Int)) (f := fun k : Nat => PyData.int (k : Int)) (p := fin c) (List.range m) (rg_hit hm rfl) rfl (lenOk.of (by rw [List.length_range]; omega)) fun k hk => ⟨?_, fun _ => rfl⟩
    have hk : k < m := by simpa using hk
    have fx := f_ix c hk
    show sV _ [.un, .o .ow (.list (nums 30 n)), .v (.int (m : Int)), .v (fD c m), .v (fD w m), .v (.int b), .o .ow (.list ((allS m).map tpD)), .o .ow (.list (G.map tpD)), .v (.int (t : Int)), .v (.int (t : Int)), .v (tpD ch), .o .ow (.list (niL (ordL c m))), .o .ow (.list (G.map (K3 w))), .v (.int (sm w bs)), .v (DL.prD tl), .o .ow (.list (niL fr)), .un, .un, .un, .un, .v (.int (k : Int)), .un, .un, .un, .un, .un] = .ok (decide (0 < c k))
    generalize niL fr = V2 at *
    generalize DL.prD tl = P at *
    generalize niL (ordL c m) = V at *
    generalize fD c m = C at *
    generalize fD w m = W at *
    generalize nums 30 n = N at *
    generalize (allS m).map tpD = A at *
    generalize G.map tpD = A2 at *
    generalize G.map (K3 w) = A3 at *
    generalize tpD ch = T at *
    generalize c k = x at *
    simp [-reduceCtorEq, eV, fx]
  unfold lw_S16
  rw [set_is e15]
  rfl
theorem s17 (hm : m ≤ 7) (hfr : ∀ k ∈ fr, k < m) (hfl : fr.length ≤ 7) (hv : vl = (sm w fr, 1)) (hl : lf = b) : lw_S17 [.un, .o .ow (.list (nums 30 n)), .v (.int (m : Int)), .v (fD c m), .v (fD w m), .v (.int b), .o .ow (.list ((allS m).map tpD)), .o .ow (.list (G.map tpD)), .v (.int (t : Int)), .v (.int (t : Int)), .v (tpD ch), .o .ow (.list (niL (ordL c m))), .o .ow (.list (G.map (K3 w))), .v (.int (sm w bs)), .v (DL.prD tl), .o .ow (.list (niL fr)), .o .ow (.list (niL re)), .un, .un, .un, .un, .un, .un, .un, .un, .un] = .nx [.un, .o .ow (.list (nums 30 n)), .v (.int (m : Int)), .v (fD c m), .v (fD w m), .v (.int b), .o .ow (.list ((allS m).map tpD)), .o .ow (.list (G.map tpD)), .v (.int (t : Int)), .v (.int (t : Int)), .v (tpD ch), .o .ow (.list (niL (ordL c m))), .o .ow (.list (G.map (K3 w))), .v (.int (sm w bs)), .v (DL.prD tl), .o .ow (.list (niL fr)), .o .ow (.list (niL re)), .v (DL.prD vl), .v (.int lf), .un, .un, .un, .un, .un, .un, .un] := by
  have e16 : lw_E16 [.un, .o .ow (.list (nums 30 n)), .v (.int (m : Int)), .v (fD c m), .v (fD w m), .v (.int b), .o .ow (.list ((allS m).map tpD)), .o .ow (.list (G.map tpD)), .v (.int (t : Int)), .v (.int (t : Int)), .v (tpD ch), .o .ow (.list (niL (ordL c m))), .o .ow (.list (G.map (K3 w))), .v (.int (sm w bs)), .v (DL.prD tl), .o .ow (.list (niL fr)), .o .ow (.list (niL re)), .un, .un, .un, .un, .un, .un, .un, .un, .un] = .ok (dn (.list ((fr.map w).map .int))) := by
    unfold lw_E16
    rw [List.map_map]
    refine eLc_Nm (emb := fun k : Nat => PyData.int (k : Int)) (f := PyData.int ∘ w) fr rfl rfl (lenOk.of (by omega)) fun k hk => ?_
    have fx := f_ix w (hfr k hk)
    show fz _ [.un, .o .ow (.list (nums 30 n)), .v (.int (m : Int)), .v (fD c m), .v (fD w m), .v (.int b), .o .ow (.list ((allS m).map tpD)), .o .ow (.list (G.map tpD)), .v (.int (t : Int)), .v (.int (t : Int)), .v (tpD ch), .o .ow (.list (niL (ordL c m))), .o .ow (.list (G.map (K3 w))), .v (.int (sm w bs)), .v (DL.prD tl), .o .ow (.list (niL fr)), .o .ow (.list (niL re)), .un, .un, .un, .v (.int (k : Int)), .un, .un, .un, .un, .un] = .ok (.int (w k))
    generalize niL fr = V2 at *
    generalize niL re = V3 at *
    generalize DL.prD tl = P at *
    generalize niL (ordL c m) = V at *
    generalize fD c m = C at *
    generalize fD w m = W at *
    generalize nums 30 n = N at *
    generalize (allS m).map tpD = A at *
    generalize G.map tpD = A2 at *
    generalize G.map (K3 w) = A3 at *
    generalize tpD ch = T at *
    generalize w k = x at *
    simp [-reduceCtorEq, eV, fx]
  have es : fz (eCall sumAD (aCons (rd lw_E16) aNil)) [.un, .o .ow (.list (nums 30 n)), .v (.int (m : Int)), .v (fD c m), .v (fD w m), .v (.int b), .o .ow (.list ((allS m).map tpD)), .o .ow (.list (G.map tpD)), .v (.int (t : Int)), .v (.int (t : Int)), .v (tpD ch), .o .ow (.list (niL (ordL c m))), .o .ow (.list (G.map (K3 w))), .v (.int (sm w bs)), .v (DL.prD tl), .o .ow (.list (niL fr)), .o .ow (.list (niL re)), .un, .un, .un, .un, .un, .un, .un, .un, .un] = .ok (.int (sm w fr)) := fz_call (rd_dn e16) (sumL _)
  have ep : DL.prD vl = .tuple [.int (sm w fr), .int 1] := by rw [hv]; rfl
  have lo := l2
  unfold lw_S17
  rw [ep, hl]
  generalize fz (eCall sumAD (aCons (rd lw_E16) aNil)) = Q at *
  generalize niL fr = V2 at *
  generalize niL re = V3 at *
  generalize DL.prD tl = P at *
  generalize niL (ordL c m) = V at *
  generalize fD c m = C at *
  generalize fD w m = W at *
  generalize nums 30 n = N at *
  generalize (allS m).map tpD = A at *
  generalize G.map tpD = A2 at *
  generalize G.map (K3 w) = A3 at *
  generalize tpD ch = T at *
  simp [-reduceCtorEq, eV, es, lo, parL, slAs, slA, setL, asg]
end
end LW
namespace LW
open PySem PySem.Spec PyProof.Rows L2 DL
section
variable {n : Nat → Int} {m : Nat} {c w : Nat → Int} {b : Int} {G : List (List Nat)} {t : Nat} {ch bs fr re : List Nat} {tl vl : Int × Int} {lf : Int}
def hd1 (w c : Nat → Int) (l : List Nat) : Nat := best1 w c (l.headD 0) l
def itS (w c : Nat → Int) (x : List Nat × (Int × Int × Int)) : List Nat × (Int × Int × Int) := (x.1.filter fun j => decide (j ≠ hd1 w c x.1), stp w c x.2 (hd1 w c x.1))
def itN (w c : Nat → Int) : Nat → List Nat × (Int × Int × Int) → List Nat × (Int × Int × Int)
  | 0, x => x
  | i + 1, x => itS w c (itN w c i x)
theorem itN_front : ∀ (i : Nat) (x : List Nat × (Int × Int × Int)), itN w c (i + 1) x = itN w c i (itS w c x)
  | 0, _ => rfl
  | i + 1, x => by
    show itS w c (itN w c (i + 1) x) = itS w c (itN w c i (itS w c x))
    rw [itN_front i x]
theorem picks_it : ∀ (i : Nat) (l : List Nat) (s : Int × Int × Int), (itN w c i (l, s)).2 = runW w c s (picks w c i l)
  | 0, _, _ => rfl
  | i + 1, l, s => by
    rw [itN_front]
    show (itN w c i (l.filter fun j => decide (j ≠ hd1 w c l), stp w c s (hd1 w c l))).2 = _
    rw [picks_it i]
    rfl
theorem best1_mem : ∀ (l : List Nat) (k : Nat), best1 w c k l ∈ k :: l
  | [], k => by simp [best1]
  | x :: l, k => by
    show best1 w c (if w k * c x < w x * c k then x else k) l ∈ _
    have := best1_mem l (if w k * c x < w x * c k then x else k)
    rcases List.mem_cons.mp this with e | e
    · rw [e]
      split <;> simp
    · simp [e]
theorem best1_snoc (l : List Nat) (k x : Nat) : best1 w c k (l ++ [x]) = if w (best1 w c k l) * c x < w x * c (best1 w c k l) then x else best1 w c k l := by
  unfold best1
  rw [List.foldl_append]
  rfl
structure IT (w c : Nat → Int) (m len i : Nat) (x : List Nat × (Int × Int × Int)) : Prop where
  inc : x.1.Pairwise (· < ·)
  pos : ∀ k ∈ x.1, 0 < c k
  lt : ∀ k ∈ x.1, k < m
  len : x.1.length + i = len
  bi : BI x.2
theorem it_step (h : WOk w c) {len i : Nat} {x : List Nat × (Int × Int × Int)} (hx : IT w c m len i x) (hi : i < len) : IT w c m len (i + 1) (itS w c x) := by
  obtain ⟨l, s⟩ := x
  obtain ⟨h1, h2, h3, h4, h5⟩ := hx
  dsimp only at *
  cases l with
  | nil => simp at h4; omega
  | cons a l =>
    obtain ⟨q1, q2⟩ := best1_ok w c h1 h2
    have pm := filter_ne_perm (h1.imp fun h => Nat.ne_of_lt h) q1
    have hl := pm.length_eq
    refine ⟨h1.sublist List.filter_sublist, fun k hk => h2 k (List.mem_filter.mp hk).1, fun k hk => h3 k (List.mem_filter.mp hk).1, ?_, bi_step h h5 _⟩
    show ((a :: l).filter fun j => decide (j ≠ best1 w c a (a :: l))).length + (i + 1) = len
    simp only [List.length_cons] at *
    omega
theorem it_all (h : WOk w c) {len : Nat} {x : List Nat × (Int × Int × Int)} (hx : IT w c m len 0 x) : ∀ i, i ≤ len → IT w c m len i (itN w c i x)
  | 0, _ => hx
  | i + 1, hi => it_step h (it_all h hx i (by omega)) (by omega)
theorem ni_len (l : List Nat) : lenD [.list (niL l)] = some (dv (.int (l.length : Int))) := by
  show some (dv (.int ((niL l).length : Int))) = _
  unfold niL
  rw [List.length_map]
theorem turn_ok (h : WOk w c) {len i : Nat} {x : List Nat × (Int × Int × Int)} (hx : IT w c m len i x) (hi : i < len) (hm : m ≤ 7) :
    ∃ A B : PyData, lw_B2 [.un, .o .ow (.list (nums 30 n)), .v (.int (m : Int)), .v (fD c m), .v (fD w m), .v (.int b), .o .ow (.list ((allS m).map tpD)), .o .ow (.list (G.map tpD)), .v (.int (t : Int)), .v (.int (t : Int)), .v (tpD ch), .o .ow (.list (niL (ordL c m))), .o .ow (.list (G.map (K3 w))), .v (.int (sm w bs)), .v (DL.prD tl), .o .ow (.list (niL fr)), .o .ow (.list (niL x.1)), .v (DL.prD (lowF x.2.1 x.2.2.1)), .v (.int x.2.2.2), .v (.int (i : Int)), .un, .un, .un, .un, .un, .un] = .nx [.un, .o .ow (.list (nums 30 n)), .v (.int (m : Int)), .v (fD c m), .v (fD w m), .v (.int b), .o .ow (.list ((allS m).map tpD)), .o .ow (.list (G.map tpD)), .v (.int (t : Int)), .v (.int (t : Int)), .v (tpD ch), .o .ow (.list (niL (ordL c m))), .o .ow (.list (G.map (K3 w))), .v (.int (sm w bs)), .v (DL.prD tl), .o .ow (.list (niL fr)), .o .ow (.list (niL (itS w c x).1)), .v (DL.prD (lowF (itS w c x).2.1 (itS w c x).2.2.1)), .v (.int (itS w c x).2.2.2), .v (.int (i : Int)), .v A, .un, .v B, .un, .un, .un] := by
  have hs := it_step h hx hi
  obtain ⟨l, sa, sb, sc⟩ := x
  obtain ⟨h1, h2, h3, h4, h5⟩ := hx
  dsimp only at *
  cases l with
  | nil => simp at h4; omega
  | cons a l =>
    have lenl : (a :: l).length ≤ 7 := by
      have : (a :: l).length ≤ m := by
        have := (incr_sub (List.range m) (a :: l) (rg_incr m) h1 fun k hk => by simpa using h3 k hk).length_le
        rw [List.length_range] at this
        exact this
      omega
    obtain ⟨k, hk⟩ : ∃ k, k = best1 w c a (a :: l) := ⟨_, rfl⟩
    have hkm : k ∈ a :: l := by
      have := (best1_ok w c h1 h2).1
      rw [hk]; exact this
    have ck := h2 k hkm
    have km := h3 k hkm
    have eit : itS w c (a :: l, (sa, sb, sc)) = ((a :: l).filter fun j => decide (j ≠ k), stp w c (sa, sb, sc) k) := by rw [hk]; rfl
    rw [eit] at hs ⊢
    dsimp only
    have ls := low_step w c (k := k) (a := sa) (b := sb) (left := sc) h.w0 ck h5.a h5.b h5.l
    obtain ⟨l1, l2', l3, l4, l5⟩ := ls
    obtain ⟨g, g0, gb, a1, a2, a3, a4, a5⟩ := low_parts h5.a h5.b
    have b11 : sb ≤ 11 := h5.b11
    dsimp only at a1 a2 a3 a4 a5 gb
    have v2 : (lowF sa sb).2 ≤ 11 := by
      have : (lowF sa sb).2 * 1 ≤ (lowF sa sb).2 * (g : Int) := Int.mul_le_mul_of_nonneg_left (by omega) (Int.le_of_lt a4)
      omega
    -- the first one
    have ix0 : ixD (.list (niL (a :: l))) (.int 0) = some (dv (.int (a : Int))) := ix_lst (k := 0) rfl
    have st20 : sSet 20 (eB ixD (rd (eV 16)) (rd (eC (.int 0)))) [.un, .o .ow (.list (nums 30 n)), .v (.int (m : Int)), .v (fD c m), .v (fD w m), .v (.int b), .o .ow (.list ((allS m).map tpD)), .o .ow (.list (G.map tpD)), .v (.int (t : Int)), .v (.int (t : Int)), .v (tpD ch), .o .ow (.list (niL (ordL c m))), .o .ow (.list (G.map (K3 w))), .v (.int (sm w bs)), .v (DL.prD tl), .o .ow (.list (niL fr)), .o .ow (.list (niL (a :: l))), .v (DL.prD (lowF sa sb)), .v (.int sc), .v (.int (i : Int)), .un, .un, .un, .un, .un, .un] = .nx [.un, .o .ow (.list (nums 30 n)), .v (.int (m : Int)), .v (fD c m), .v (fD w m), .v (.int b), .o .ow (.list ((allS m).map tpD)), .o .ow (.list (G.map tpD)), .v (.int (t : Int)), .v (.int (t : Int)), .v (tpD ch), .o .ow (.list (niL (ordL c m))), .o .ow (.list (G.map (K3 w))), .v (.int (sm w bs)), .v (DL.prD tl), .o .ow (.list (niL fr)), .o .ow (.list (niL (a :: l))), .v (DL.prD (lowF sa sb)), .v (.int sc), .v (.int (i : Int)), .v (.int (a : Int)), .un, .un, .un, .un, .un] := by
      generalize DL.prD (lowF sa sb) = VL at *
      generalize niL (a :: l) = R at *
      generalize niL fr = V2 at *
      generalize DL.prD tl = P at *
      generalize niL (ordL c m) = V at *
      generalize fD c m = C at *
      generalize fD w m = W at *
      generalize nums 30 n = N at *
      generalize (allS m).map tpD = A at *
      generalize G.map tpD = A2 at *
      generalize G.map (K3 w) = A3 at *
      generalize tpD ch = T at *
      simp [-reduceCtorEq, eV, ix0, asg]
    have lp : sFor (iSeqA (lsFor (eV 16) [16])) [16] (tN 21) lw_B1 [21] [.un, .o .ow (.list (nums 30 n)), .v (.int (m : Int)), .v (fD c m), .v (fD w m), .v (.int b), .o .ow (.list ((allS m).map tpD)), .o .ow (.list (G.map tpD)), .v (.int (t : Int)), .v (.int (t : Int)), .v (tpD ch), .o .ow (.list (niL (ordL c m))), .o .ow (.list (G.map (K3 w))), .v (.int (sm w bs)), .v (DL.prD tl), .o .ow (.list (niL fr)), .o .ow (.list (niL (a :: l))), .v (DL.prD (lowF sa sb)), .v (.int sc), .v (.int (i : Int)), .v (.int (a : Int)), .un, .un, .un, .un, .un] = .nx [.un, .o .ow (.list (nums 30 n)), .v (.int (m : Int)), .v (fD c m), .v (fD w m), .v (.int b), .o .ow (.list ((allS m).map tpD)), .o .ow (.list (G.map tpD)), .v (.int (t : Int)), .v (.int (t : Int)), .v (tpD ch), .o .ow (.list (niL (ordL c m))), .o .ow (.list (G.map (K3 w))), .v (.int (sm w bs)), .v (DL.prD tl), .o .ow (.list (niL fr)), .o .ow (.list (niL (a :: l))), .v (DL.prD (lowF sa sb)), .v (.int sc), .v (.int (i : Int)), .v (.int (k : Int)), .un, .un, .un, .un, .un] := by
      rw [hk]
      refine for_pre (emb := fun j : Nat => PyData.int (j : Int)) (S := fun pre => [.un, .o .ow (.list (nums 30 n)), .v (.int (m : Int)), .v (fD c m), .v (fD w m), .v (.int b), .o .ow (.list ((allS m).map tpD)), .o .ow (.list (G.map tpD)), .v (.int (t : Int)), .v (.int (t : Int)), .v (tpD ch), .o .ow (.list (niL (ordL c m))), .o .ow (.list (G.map (K3 w))), .v (.int (sm w bs)), .v (DL.prD tl), .o .ow (.list (niL fr)), .o .ln (.list (niL (a :: l))), .v (DL.prD (lowF sa sb)), .v (.int sc), .v (.int (i : Int)), .v (.int (best1 w c a pre : Int)), .un, .un, .un, .un, .un]) (a :: l) rfl rfl (fun pre j post er => ?_) rfl
      have hj : j < m := h3 j (by rw [er]; simp)
      have hpm : best1 w c a pre < m := by
        rcases List.mem_cons.mp (best1_mem (w := w) (c := c) pre a) with e | e
        · rw [e]; exact h3 a List.mem_cons_self
        · exact h3 _ (by rw [er]; simp [e])
      refine ⟨[.un, .o .ow (.list (nums 30 n)), .v (.int (m : Int)), .v (fD c m), .v (fD w m), .v (.int b), .o .ow (.list ((allS m).map tpD)), .o .ow (.list (G.map tpD)), .v (.int (t : Int)), .v (.int (t : Int)), .v (tpD ch), .o .ow (.list (niL (ordL c m))), .o .ow (.list (G.map (K3 w))), .v (.int (sm w bs)), .v (DL.prD tl), .o .ow (.list (niL fr)), .o .ln (.list (niL (a :: l))), .v (DL.prD (lowF sa sb)), .v (.int sc), .v (.int (i : Int)), .v (.int (best1 w c a pre : Int)), .v (.int (j : Int)), .un, .un, .un, .un], [.un, .o .ow (.list (nums 30 n)), .v (.int (m : Int)), .v (fD c m), .v (fD w m), .v (.int b), .o .ow (.list ((allS m).map tpD)), .o .ow (.list (G.map tpD)), .v (.int (t : Int)), .v (.int (t : Int)), .v (tpD ch), .o .ow (.list (niL (ordL c m))), .o .ow (.list (G.map (K3 w))), .v (.int (sm w bs)), .v (DL.prD tl), .o .ow (.list (niL fr)), .o .ln (.list (niL (a :: l))), .v (DL.prD (lowF sa sb)), .v (.int sc), .v (.int (i : Int)), .v (.int (best1 w c a (pre ++ [j]) : Int)), .v (.int (j : Int)), .un, .un, .un, .un], rfl, .inl ?_, rfl⟩
      rw [best1_snoc]
      generalize best1 w c a pre = q at *
      have f1 := f_ix w hj
      have f2 := f_ix c hpm
      have f3 := f_ix w hpm
      have f4 := f_ix c hj
      have wj := h.w0 j
      have wj1 := h.w1 j
      have wq := h.w0 q
      have wq1 := h.w1 q
      have mu1 : mulD (.int (w j)) (.int (c q)) = some (dv (.int (w j * c q))) := mulD_i _ _ (.inl (by omega))
      have mu2 : mulD (.int (w q)) (.int (c j)) = some (dv (.int (w q * c j))) := mulD_i _ _ (.inl (by omega))
      generalize w j * c q = z1 at *
      generalize w q * c j = z2 at *
      generalize DL.prD (lowF sa sb) = VL at *
      generalize niL (a :: l) = R at *
      generalize niL fr = V2 at *
      generalize DL.prD tl = P at *
      generalize niL (ordL c m) = V at *
      generalize fD c m = C at *
      generalize fD w m = W at *
      generalize nums 30 n = N at *
      generalize (allS m).map tpD = A at *
      generalize G.map tpD = A2 at *
      generalize G.map (K3 w) = A3 at *
      generalize tpD ch = T at *
      generalize w j = x1 at *
      generalize w q = x2 at *
      generalize c j = x3 at *
      generalize c q = x4 at *
      by_cases hz : z2 < z1
      · rw [if_pos hz]
        refine if_yes ?_ ?_
        · simp [-reduceCtorEq, eV, f1, f2, f3, f4, mu1, mu2, hz]
        · simp [-reduceCtorEq, eV, asg]
      · rw [if_neg hz]
        refine if_no ?_ rfl
        simp [-reduceCtorEq, eV, f1, f2, f3, f4, mu1, mu2, hz]
    have e17 : lw_E17 [.un, .o .ow (.list (nums 30 n)), .v (.int (m : Int)), .v (fD c m), .v (fD w m), .v (.int b), .o .ow (.list ((allS m).map tpD)), .o .ow (.list (G.map tpD)), .v (.int (t : Int)), .v (.int (t : Int)), .v (tpD ch), .o .ow (.list (niL (ordL c m))), .o .ow (.list (G.map (K3 w))), .v (.int (sm w bs)), .v (DL.prD tl), .o .ow (.list (niL fr)), .o .ow (.list (niL (a :: l))), .v (DL.prD (lowF sa sb)), .v (.int sc), .v (.int (i : Int)), .v (.int (k : Int)), .un, .un, .un, .un, .un] = .ok (dn (.list (niL ((a :: l).filter fun j => decide (j ≠ k))))) := by
      unfold lw_E17 niL
      refine eLc_N (emb := fun j : Nat => PyData.int (j : Int)) (f := fun j : Nat => PyData.int (j : Int)) (p := fun j => decide (j ≠ k)) (a :: l) rfl rfl (lenOk.of (by omega)) fun j hj => ⟨?_, fun _ => rfl⟩
      have ne : neD (.int (j : Int)) (.int (k : Int)) = some (dv (.bool (decide (j ≠ k)))) := by
        unfold neD
        rw [if_pos ⟨rfl, rfl⟩, eqv_i]
        by_cases e : j = k
        · subst e; simp
        · have e2 : ¬ (j : Int) = (k : Int) := by omega
          simp [e, e2]
      show sV _ [.un, .o .ow (.list (nums 30 n)), .v (.int (m : Int)), .v (fD c m), .v (fD w m), .v (.int b), .o .ow (.list ((allS m).map tpD)), .o .ow (.list (G.map tpD)), .v (.int (t : Int)), .v (.int (t : Int)), .v (tpD ch), .o .ow (.list (niL (ordL c m))), .o .ow (.list (G.map (K3 w))), .v (.int (sm w bs)), .v (DL.prD tl), .o .ow (.list (niL fr)), .o .ow (.list (niL (a :: l))), .v (DL.prD (lowF sa sb)), .v (.int sc), .v (.int (i : Int)), .v (.int (k : Int)), .v (.int (j : Int)), .un, .un, .un, .un] = _
      generalize decide (j ≠ k) = d at *
      generalize DL.prD (lowF sa sb) = VL at *
      generalize niL (a :: l) = R at *
      generalize niL fr = V2 at *
      generalize DL.prD tl = P at *
      generalize niL (ordL c m) = V at *
      generalize fD c m = C at *
      generalize fD w m = W at *
      generalize nums 30 n = N at *
      generalize (allS m).map tpD = A at *
      generalize G.map tpD = A2 at *
      generalize G.map (K3 w) = A3 at *
      generalize tpD ch = T at *
      simp [-reduceCtorEq, eV, ne]
    have st16 : sSet 16 lw_E17 [.un, .o .ow (.list (nums 30 n)), .v (.int (m : Int)), .v (fD c m), .v (fD w m), .v (.int b), .o .ow (.list ((allS m).map tpD)), .o .ow (.list (G.map tpD)), .v (.int (t : Int)), .v (.int (t : Int)), .v (tpD ch), .o .ow (.list (niL (ordL c m))), .o .ow (.list (G.map (K3 w))), .v (.int (sm w bs)), .v (DL.prD tl), .o .ow (.list (niL fr)), .o .ow (.list (niL (a :: l))), .v (DL.prD (lowF sa sb)), .v (.int sc), .v (.int (i : Int)), .v (.int (k : Int)), .un, .un, .un, .un, .un] = .nx [.un, .o .ow (.list (nums 30 n)), .v (.int (m : Int)), .v (fD c m), .v (fD w m), .v (.int b), .o .ow (.list ((allS m).map tpD)), .o .ow (.list (G.map tpD)), .v (.int (t : Int)), .v (.int (t : Int)), .v (tpD ch), .o .ow (.list (niL (ordL c m))), .o .ow (.list (G.map (K3 w))), .v (.int (sm w bs)), .v (DL.prD tl), .o .ow (.list (niL fr)), .o .ow (.list (niL ((a :: l).filter fun j => decide (j ≠ k)))), .v (DL.prD (lowF sa sb)), .v (.int sc), .v (.int (i : Int)), .v (.int (k : Int)), .un, .un, .un, .un, .un] := by
      rw [set_is e17]
      rfl
    generalize (a :: l).filter (fun j => decide (j ≠ k)) = F at *
    obtain ⟨p, hp⟩ : ∃ p, p = if c k < sc then c k else sc := ⟨_, rfl⟩
    rw [← hp] at l1 l4
    have fc := f_ix c km
    have fw := f_ix w km
    have mn : min2D [.int sc, .int (c k)] = some (dv (.int p)) := by rw [hp]; rfl
    have st22 : sSet 22 (eCall min2D (aCons (rd (eV 18)) (aCons (rd (eB ixD (rd (eV 3)) (rd (eV 20)))) aNil))) [.un, .o .ow (.list (nums 30 n)), .v (.int (m : Int)), .v (fD c m), .v (fD w m), .v (.int b), .o .ow (.list ((allS m).map tpD)), .o .ow (.list (G.map tpD)), .v (.int (t : Int)), .v (.int (t : Int)), .v (tpD ch), .o .ow (.list (niL (ordL c m))), .o .ow (.list (G.map (K3 w))), .v (.int (sm w bs)), .v (DL.prD tl), .o .ow (.list (niL fr)), .o .ow (.list (niL F)), .v (DL.prD (lowF sa sb)), .v (.int sc), .v (.int (i : Int)), .v (.int (k : Int)), .un, .un, .un, .un, .un] = .nx [.un, .o .ow (.list (nums 30 n)), .v (.int (m : Int)), .v (fD c m), .v (fD w m), .v (.int b), .o .ow (.list ((allS m).map tpD)), .o .ow (.list (G.map tpD)), .v (.int (t : Int)), .v (.int (t : Int)), .v (tpD ch), .o .ow (.list (niL (ordL c m))), .o .ow (.list (G.map (K3 w))), .v (.int (sm w bs)), .v (DL.prD tl), .o .ow (.list (niL fr)), .o .ow (.list (niL F)), .v (DL.prD (lowF sa sb)), .v (.int sc), .v (.int (i : Int)), .v (.int (k : Int)), .un, .v (.int p), .un, .un, .un] := by
      generalize DL.prD (lowF sa sb) = VL at *
      generalize niL F = R at *
      generalize niL fr = V2 at *
      generalize DL.prD tl = P at *
      generalize niL (ordL c m) = V at *
      generalize fD c m = C at *
      generalize fD w m = W at *
      generalize nums 30 n = N at *
      generalize (allS m).map tpD = A at *
      generalize G.map tpD = A2 at *
      generalize G.map (K3 w) = A3 at *
      generalize tpD ch = T at *
      generalize sc = left at *
      generalize c k = x3 at *
      simp [-reduceCtorEq, eV, fc, mn, asg]
    have c1 := h.c1 k
    have hpos : 0 < (lowF sa sb).2 * c k := Int.mul_pos a4 ck
    have hsm : (lowF sa sb).2 * c k < 1000000 := by
      have : (lowF sa sb).2 * c k ≤ (lowF sa sb).2 * 11 := Int.mul_le_mul_of_nonneg_left c1 (Int.le_of_lt a4)
      omega
    have lw := law_low_ok (t := (lowF sa sb).1 * c k + w k * p * (lowF sa sb).2) hpos hsm
    rw [l1] at lw
    have w0 := h.w0 k
    have w1 := h.w1 k
    have mu1 : mulD (.int (lowF sa sb).1) (.int (c k)) = some (dv (.int ((lowF sa sb).1 * c k))) := mulD_i _ _ (.inr (by omega))
    have mu2 : mulD (.int (w k)) (.int p) = some (dv (.int (w k * p))) := mulD_i _ _ (.inl (by omega))
    have mu3 : mulD (.int (w k * p)) (.int (lowF sa sb).2) = some (dv (.int (w k * p * (lowF sa sb).2))) := mulD_i _ _ (.inr (by omega))
    have mu4 : mulD (.int (lowF sa sb).2) (.int (c k)) = some (dv (.int ((lowF sa sb).2 * c k))) := mulD_i _ _ (.inr (by omega))
    have i0 := p_i0 (lowF sa sb)
    have i1 := p_i1 (lowF sa sb)
    have st17 : sSet 17 (eDef mf__law_low (aCons (rd (eB addD (rd (eB mulD (rd (eB ixD (rd (eV 17)) (rd (eC (.int 0))))) (rd (eB ixD (rd (eV 3)) (rd (eV 20)))))) (rd (eB mulD (rd (eB mulD (rd (eB ixD (rd (eV 4)) (rd (eV 20)))) (rd (eV 22)))) (rd (eB ixD (rd (eV 17)) (rd (eC (.int 1))))))))) (aCons (fz (eB mulD (rd (eB ixD (rd (eV 17)) (rd (eC (.int 1))))) (rd (eB ixD (rd (eV 3)) (rd (eV 20)))))) aNil)) (dd__law_low.drop 0)) [.un, .o .ow (.list (nums 30 n)), .v (.int (m : Int)), .v (fD c m), .v (fD w m), .v (.int b), .o .ow (.list ((allS m).map tpD)), .o .ow (.list (G.map tpD)), .v (.int (t : Int)), .v (.int (t : Int)), .v (tpD ch), .o .ow (.list (niL (ordL c m))), .o .ow (.list (G.map (K3 w))), .v (.int (sm w bs)), .v (DL.prD tl), .o .ow (.list (niL fr)), .o .ow (.list (niL F)), .v (DL.prD (lowF sa sb)), .v (.int sc), .v (.int (i : Int)), .v (.int (k : Int)), .un, .v (.int p), .un, .un, .un] = .nx [.un, .o .ow (.list (nums 30 n)), .v (.int (m : Int)), .v (fD c m), .v (fD w m), .v (.int b), .o .ow (.list ((allS m).map tpD)), .o .ow (.list (G.map tpD)), .v (.int (t : Int)), .v (.int (t : Int)), .v (tpD ch), .o .ow (.list (niL (ordL c m))), .o .ow (.list (G.map (K3 w))), .v (.int (sm w bs)), .v (DL.prD tl), .o .ow (.list (niL fr)), .o .ow (.list (niL F)), .v (DL.prD (lowF (stp w c (sa, sb, sc) k).1 (stp w c (sa, sb, sc) k).2.1)), .v (.int sc), .v (.int (i : Int)), .v (.int (k : Int)), .un, .v (.int p), .un, .un, .un] := by
      generalize DL.prD (lowF (stp w c (sa, sb, sc) k).1 (stp w c (sa, sb, sc) k).2.1) = VN at *
      generalize DL.prD (lowF sa sb) = VL at *
      generalize niL F = R at *
      generalize niL fr = V2 at *
      generalize DL.prD tl = P at *
      generalize niL (ordL c m) = V at *
      generalize fD c m = C at *
      generalize fD w m = W at *
      generalize nums 30 n = N at *
      generalize (allS m).map tpD = A at *
      generalize G.map tpD = A2 at *
      generalize G.map (K3 w) = A3 at *
      generalize tpD ch = T at *
      generalize sc = left at *
      generalize (lowF sa sb).1 * c k = z1 at *
      generalize w k * p * (lowF sa sb).2 = z2 at *
      generalize w k * p = z3 at *
      generalize (lowF sa sb).2 * c k = z4 at *
      generalize (lowF sa sb).1 = y1 at *
      generalize (lowF sa sb).2 = y2 at *
      generalize c k = x3 at *
      generalize w k = x4 at *
      simp [-reduceCtorEq, eV, fc, fw, i0, i1, mu1, mu2, mu3, mu4, lw, asg]
    refine ⟨.int (k : Int), .int p, seq_to st20 (seq_to lp (seq_to st16 (seq_to st22 (seq_to st17 ?_))))⟩
    rw [l4]
    generalize DL.prD (lowF (stp w c (sa, sb, sc) k).1 (stp w c (sa, sb, sc) k).2.1) = VN at *
    generalize niL F = R at *
    generalize niL fr = V2 at *
    generalize DL.prD tl = P at *
    generalize niL (ordL c m) = V at *
    generalize fD c m = C at *
    generalize fD w m = W at *
    generalize nums 30 n = N at *
    generalize (allS m).map tpD = A at *
    generalize G.map tpD = A2 at *
    generalize G.map (K3 w) = A3 at *
    generalize tpD ch = T at *
    generalize sc = left at *
    rfl
theorem s18 (h : WOk w c) (hm : m ≤ 7) (hx : IT w c m re.length 0 (re, (sm w fr, 1, b))) (hrl : re.length ≤ 7) (hv : vl = lowF (sm w fr) 1) (hl : lf = b) :
    ∃ x, x = itN w c re.length (re, (sm w fr, 1, b)) ∧ lw_S18 [.un, .o .ow (.list (nums 30 n)), .v (.int (m : Int)), .v (fD c m), .v (fD w m), .v (.int b), .o .ow (.list ((allS m).map tpD)), .o .ow (.list (G.map tpD)), .v (.int (t : Int)), .v (.int (t : Int)), .v (tpD ch), .o .ow (.list (niL (ordL c m))), .o .ow (.list (G.map (K3 w))), .v (.int (sm w bs)), .v (DL.prD tl), .o .ow (.list (niL fr)), .o .ow (.list (niL re)), .v (DL.prD vl), .v (.int lf), .un, .un, .un, .un, .un, .un, .un] = .nx [.un, .o .ow (.list (nums 30 n)), .v (.int (m : Int)), .v (fD c m), .v (fD w m), .v (.int b), .o .ow (.list ((allS m).map tpD)), .o .ow (.list (G.map tpD)), .v (.int (t : Int)), .v (.int (t : Int)), .v (tpD ch), .o .ow (.list (niL (ordL c m))), .o .ow (.list (G.map (K3 w))), .v (.int (sm w bs)), .v (DL.prD tl), .o .ow (.list (niL fr)), .o .ow (.list (niL x.1)), .v (DL.prD (lowF x.2.1 x.2.2.1)), .v (.int x.2.2.2), .un, .un, .un, .un, .un, .un, .un] := by
  refine ⟨_, rfl, ?_⟩
  have nl := ni_len re
  have hit : iRg1 (rd (eCall lenD (aCons (rd (eV 16)) aNil))) [.un, .o .ow (.list (nums 30 n)), .v (.int (m : Int)), .v (fD c m), .v (fD w m), .v (.int b), .o .ow (.list ((allS m).map tpD)), .o .ow (.list (G.map tpD)), .v (.int (t : Int)), .v (.int (t : Int)), .v (tpD ch), .o .ow (.list (niL (ordL c m))), .o .ow (.list (G.map (K3 w))), .v (.int (sm w bs)), .v (DL.prD tl), .o .ow (.list (niL fr)), .o .ow (.list (niL re)), .v (DL.prD vl), .v (.int lf), .un, .un, .un, .un, .un, .un, .un] = .ok ((List.range re.length).map fun k : Nat => PyData.int (k : Int)) := by
    have hr : rgOk 0 (re.length : Int) := rgOk.of (by omega)
    have e : rd (eCall lenD (aCons (rd (eV 16)) aNil)) [.un, .o .ow (.list (nums 30 n)), .v (.int (m : Int)), .v (fD c m), .v (fD w m), .v (.int b), .o .ow (.list ((allS m).map tpD)), .o .ow (.list (G.map tpD)), .v (.int (t : Int)), .v (.int (t : Int)), .v (tpD ch), .o .ow (.list (niL (ordL c m))), .o .ow (.list (G.map (K3 w))), .v (.int (sm w bs)), .v (DL.prD tl), .o .ow (.list (niL fr)), .o .ow (.list (niL re)), .v (DL.prD vl), .v (.int lf), .un, .un, .un, .un, .un, .un, .un] = .ok (.int (re.length : Int)) := rd_call rfl nl
    show Rs.bind (rd _ _) _ = _
    rw [e]
    show (if rgOk 0 (re.length : Int) then Rs.ok (rgD 0 (re.length : Int)) else .st) = _
    rw [if_pos hr, rg_map]
  rw [hv, hl] at hit ⊢
  refine for_rgS (m := re.length) (emb := fun k : Nat => PyData.int (k : Int)) (S := fun i => [.un, .o .ow (.list (nums 30 n)), .v (.int (m : Int)), .v (fD c m), .v (fD w m), .v (.int b), .o .ow (.list ((allS m).map tpD)), .o .ow (.list (G.map tpD)), .v (.int (t : Int)), .v (.int (t : Int)), .v (tpD ch), .o .ow (.list (niL (ordL c m))), .o .ow (.list (G.map (K3 w))), .v (.int (sm w bs)), .v (DL.prD tl), .o .ow (.list (niL fr)), .o .ow (.list (niL (itN w c i (re, (sm w fr, 1, b))).1)), .v (DL.prD (lowF (itN w c i (re, (sm w fr, 1, b))).2.1 (itN w c i (re, (sm w fr, 1, b))).2.2.1)), .v (.int (itN w c i (re, (sm w fr, 1, b))).2.2.2), .un, .un, .un, .un, .un, .un, .un]) hit rfl (fun i hi => ?_) rfl
  obtain ⟨A, B, tk⟩ := turn_ok (n := n) (b := b) (G := G) (t := t) (ch := ch) (bs := bs) (fr := fr) (tl := tl) h (it_all h hx i (by omega)) hi hm
  have e : itN w c (i + 1) (re, (sm w fr, 1, b)) = itS w c (itN w c i (re, (sm w fr, 1, b))) := rfl
  rw [e]
  exact ⟨_, _, rfl, .inl tk, rfl⟩
end
end LW
namespace LW
open PySem PySem.Spec PyProof.Rows L2 DL
section
variable {n : Nat → Int} {m : Nat} {c w : Nat → Int} {b : Int} {G : List (List Nat)} {t : Nat} {ch bs fr re : List Nat} {tl vl : Int × Int} {lf : Int} {R : List PyData} {i : Nat}
theorem s19 : lw_S19 [.un, .o .ow (.list (nums 30 n)), .v (.int (m : Int)), .v (fD c m), .v (fD w m), .v (.int b), .o .ow (.list ((allS m).map tpD)), .o .ow (.list (G.map tpD)), .v (.int (t : Int)), .v (.int (t : Int)), .v (tpD ch), .o .ow (.list (niL (ordL c m))), .o .ow (.list (G.map (K3 w))), .v (.int (sm w bs)), .v (DL.prD tl), .o .ow (.list (niL fr)), .o .ow (.list R), .v (DL.prD tl), .v (.int lf), .un, .un, .un, .un, .un, .un, .un] = .nx [.un, .o .ow (.list (nums 30 n)), .v (.int (m : Int)), .v (fD c m), .v (fD w m), .v (.int b), .o .ow (.list ((allS m).map tpD)), .o .ow (.list (G.map tpD)), .v (.int (t : Int)), .v (.int (t : Int)), .v (tpD ch), .o .ow (.list (niL (ordL c m))), .o .ow (.list (G.map (K3 w))), .v (.int (sm w bs)), .v (DL.prD tl), .o .ow (.list (niL fr)), .o .ow (.list R), .v (DL.prD tl), .v (.int lf), .un, .un, .un, .un, .un, .un, .un] := by
  unfold lw_S19
  exact if_no (ne_no (d := DL.prD tl) rfl rfl rfl) rfl
def wrB : Nat → PyData
  | 0 => .int (-1)
  | 1 => .none
  | _ => .bool true
theorem wrB_ok : ∀ i, argS false (wrB i) = .v (wrB i) ∧ mf_is_whole [wrB i, .int 0] = .ok (dv (.bool false))
  | 0 => ⟨rfl, by kernel_rfl⟩
  | 1 => ⟨rfl, by kernel_rfl⟩
  | n + 2 => ⟨rfl, by kernel_rfl⟩
theorem wrB_ix : ∀ i : Nat, i < 3 → ixD (.tuple [.int (-1), .none, .bool true]) (.int (i : Int)) = some (dv (wrB i))
  | 0, _ => rfl
  | 1, _ => rfl
  | 2, _ => rfl
  | n + 3, h => absurd h (by omega)
theorem s20 (h : WOk w c) (hm : m ≤ 7) (hi : n 18 % 3 = (i : Int)) : (lw_S20 [.un, .o .ow (.list (nums 30 n)), .v (.int (m : Int)), .v (fD c m), .v (fD w m), .v (.int b), .o .ow (.list ((allS m).map tpD)), .o .ow (.list (G.map tpD)), .v (.int (t : Int)), .v (.int (t : Int)), .v (tpD ch), .o .ow (.list (niL (ordL c m))), .o .ow (.list (G.map (K3 w))), .v (.int (sm w bs)), .v (DL.prD tl), .o .ow (.list (niL fr)), .o .ow (.list R), .v (DL.prD tl), .v (.int lf), .un, .un, .un, .un, .un, .un, .un]).out = .ok (dv (.bool true)) := by
  have j0 : ixD (.list (nums 30 n)) (.int 18) = some (dv (.int (n 18))) := nm_ix (k := 18) (by omega)
  have d0 : modD (.int (n 18)) (.int 3) = some (dv (.int (i : Int))) := by rw [modD_i _ _ (by decide), hi]
  have wx := wrB_ix i (by omega)
  obtain ⟨w1, w2⟩ := wrB_ok i
  have ad : addD (fD w m) (.tuple [.int 1]) = some (dv (.tuple (((List.range m).map fun k => PyData.int (w k)) ++ [.int 1]))) := by
    show (if lenOk (((List.range m).map fun k => PyData.int (w k)).length + 1) then some (dv (.tuple (((List.range m).map fun k => PyData.int (w k)) ++ [PyData.int 1]))) else none) = _
    rw [if_pos (lenOk.of (by rw [List.length_map, List.length_range]; omega))]
  have r1 : mf__law_refuses [fD c m, .tuple (((List.range m).map fun k => PyData.int (w k)) ++ [.int 1]), .int b] = .ok (dv (.bool true)) := refuse ⟨_, rfl⟩ ⟨_, rfl⟩ rfl (wrong_len (m := m) (by omega) (by rw [List.length_append, List.length_map, List.length_range]; rfl))
  have r2 : mf__law_refuses [fD c m, fD w m, wrB i] = .ok (dv (.bool true)) := refuse ⟨_, rfl⟩ ⟨_, rfl⟩ w1 (wrong_bound h (m := m) (by omega) w1 w2)
  have r3 := refuse3
  have mt : mulTD (.tuple [.int 1]) (.int 13) = some (dv (.tuple (List.replicate 13 (.int 1)))) := rfl
  have l1 : lenOk 1 := lenOk.of (by omega)
  have l3 : lenOk 3 := lenOk.of (by omega)
  refine ret_dv ?_
  generalize List.replicate 13 (PyData.int 1) = Y13 at *
  generalize ((List.range m).map fun k => PyData.int (w k)) ++ [PyData.int 1] = Y at *
  generalize wrB i = D at *
  generalize DL.prD tl = P at *
  generalize niL fr = V2 at *
  generalize niL (ordL c m) = V at *
  generalize fD c m = C at *
  generalize fD w m = W at *
  generalize nums 30 n = N at *
  generalize (allS m).map tpD = A at *
  generalize G.map tpD = A2 at *
  generalize G.map (K3 w) = A3 at *
  generalize tpD ch = T at *
  simp [-reduceCtorEq, eV, j0, d0, wx, ad, r1, r2, r3, mt, l1, l3]
theorem law_core (D : Dr n m c w b) (hi : n 18 % 3 = (i : Int)) : (m_b_law [.un, .o .ow (.list (nums 30 n)), .un, .un, .un, .un, .un, .un, .un, .un, .un, .un, .un, .un, .un, .un, .un, .un, .un, .un, .un, .un, .un, .un, .un, .un]).out = .ok (dv (.bool true)) := by
  have h := D.ok
  have hm := D.m7
  have b0 := D.b0
  obtain ⟨t, ch, t1, t2, c1, c2, c3, c4⟩ := chosen h hm b0.1
  obtain ⟨G, hG⟩ : ∃ G, G = gdS c b m := ⟨_, rfl⟩
  obtain ⟨x, r, hxr⟩ : ∃ x r, gdS c b m = x :: r := by
    cases hg : gdS c b m with
    | nil => rw [hg] at c2; cases c2
    | cons x r => exact ⟨x, r, rfl⟩
  obtain ⟨bs, hbs⟩ : ∃ bs, bs = mn3 w x r := ⟨_, rfl⟩
  obtain ⟨bm1, bm2⟩ := mn3_ok w r x
  rw [← hbs, ← hxr] at bm1 bm2
  obtain ⟨fr, hfr⟩ : ∃ fr, fr = (List.range m).filter fun k => decide (c k = 0) := ⟨_, rfl⟩
  obtain ⟨re, hre⟩ : ∃ re, re = (List.range m).filter (fin c) := ⟨_, rfl⟩
  have frl : fr.length ≤ 7 := by
    have := List.length_filter_le (fun k => decide (c k = 0)) (List.range m)
    rw [List.length_range] at this
    rw [hfr]; omega
  have rel : re.length ≤ 7 := by
    have := List.length_filter_le (fin c) (List.range m)
    rw [List.length_range] at this
    rw [hre]; omega
  have frm : ∀ k ∈ fr, k < m := fun k hk => by
    rw [hfr] at hk
    have := (List.mem_filter.mp hk).1
    simpa using this
  have rem : ∀ k ∈ re, k < m := fun k hk => by
    rw [hre] at hk
    have := (List.mem_filter.mp hk).1
    simpa using this
  have rep : ∀ k ∈ re, 0 < c k := fun k hk => by
    rw [hre] at hk
    exact of_decide_eq_true (List.mem_filter.mp hk).2
  have rei : re.Pairwise (· < ·) := by rw [hre]; exact (rg_incr m).sublist List.filter_sublist
  have wf0 : 0 ≤ sm w fr := sm_nonneg w fr fun k _ => h.w0 k
  -- the told bound
  have rs := run_srt w c h.w0 h.c0 (List.range m) b0.1
  rw [← hfr, ← hre] at rs
  have bi := bi_run h (srtR w c re) (s := (sm w fr, 1, b)) ⟨wf0, Int.one_pos, b0.1, by show b ≤ 1000; omega, .inl rfl⟩
  obtain ⟨tl, htl⟩ : ∃ tl, tl = lowF (runW w c (0, 1, b) (srtR w c (List.range m))).1 (runW w c (0, 1, b) (srtR w c (List.range m))).2.1 := ⟨_, rfl⟩
  have htl2 : tl = lowF (runW w c (sm w fr, 1, b) (srtR w c re)).1 (runW w c (sm w fr, 1, b) (srtR w c re)).2.1 := by rw [htl, rs]
  obtain ⟨M, hM1, hM2⟩ := max_ex ((List.range m).map w) 0
  have po := part_ok (m := m) (best := sm w bs) (M := M) h.w0 h.c0 b0.1 (fun k hk => hM2 _ (List.mem_cons_of_mem _ (List.mem_map.mpr ⟨k, by simpa using hk, rfl⟩))) (hM2 0 List.mem_cons_self) (fun d hd hc => bm2 _ (gd_iff.mpr ⟨d, hd, rfl, hc⟩)) (by
    obtain ⟨d, hd, e, hc⟩ := gd_iff.mp bm1
    exact ⟨d, hd, by rw [e]; exact hc, by rw [e]⟩)
  rw [← hfr, ← hre] at po
  obtain ⟨p1, p2, p3⟩ := po
  obtain ⟨g, g0, gb, a1, a2, a3, a4, a5⟩ := low_parts bi.a bi.b
  have tt := low_low bi.a bi.b
  rw [← htl2] at a1 a2 a3 a4 tt
  have b11 := bi.b11
  have t11 : tl.2 ≤ 11 := by
    have : tl.2 * 1 ≤ tl.2 * (g : Int) := Int.mul_le_mul_of_nonneg_left (by omega) (Int.le_of_lt a4)
    omega
  have gp : (0 : Int) < (g : Int) := by omega
  have q1 : sm w bs * tl.2 ≤ tl.1 := by
    rw [a1, a2] at p2
    refine Int.le_of_mul_le_mul_right ?_ gp
    rw [Int.mul_assoc]
    exact p2
  have q2 : tl.1 ≤ (sm w bs + M) * tl.2 := by
    rw [a1, a2] at p3
    refine Int.le_of_mul_le_mul_right ?_ gp
    rw [Int.mul_assoc]
    exact p3
  -- the law's own
  have it0 : IT w c m re.length 0 (re, (sm w fr, 1, b)) := ⟨rei, rep, rem, rfl, ⟨wf0, Int.one_pos, b0.1, by show b ≤ 1000; omega, .inl rfl⟩⟩
  obtain ⟨y, hy, e18⟩ := s18 (n := n) (b := b) (G := G) (t := t) (ch := ch) (bs := bs) (fr := fr) (tl := tl) (vl := (sm w fr, 1)) (lf := b) h hm it0 rel (low_one wf0).symm rfl
  have y2 : y.2 = runW w c (sm w fr, 1, b) (srtR w c re) := by rw [hy, picks_it, picks_srt w c rei rep]
  have ey : lowF y.2.1 y.2.2.1 = tl := by rw [y2, htl2]
  rw [ey] at e18
  rw [lw_split]
  exact seq_out (s1 D) <| seq_out (s2 D) <| seq_out (s3 D) <| seq_out (s4 hm) <| seq_out (s5 hm hG) <| seq_out (s6 hm hG (by rw [hG]; exact c2) c3 (by rw [hG]; exact c4)) <| seq_out (s7 D t1 t2 c1) <| seq_out (s8 hm) <| seq_out (s9 hm t1 c1 (by rw [hG]; exact c2)) <| seq_out (s10 hm hG) <| seq_out (s11 D hxr hG hbs) <| seq_out (s12 (by rw [hG]; exact hxr) hbs) <| seq_out (s13 D htl) <| seq_out (s14 h hm hM1 hM2 a4 t11 tt q1 q2) <| seq_out (s15 hm hfr) <| seq_out (s16 hm hre) <| seq_out (s17 hm frm frl rfl rfl) <| seq_out e18 <| seq_out s19 (s20 h hm hi)
end
theorem law_out : ∀ n : Nat → Int, (∀ k, 0 ≤ n k ∧ n k < 306783343) → (m_b_law (stL N_law.length (nums 30 n))).out = .ok (dv (.bool true)) := by
  intro n hn
  obtain ⟨m, hm⟩ : ∃ k : Nat, n 0 % 8 = (k : Int) := ⟨(n 0 % 8).toNat, by omega⟩
  obtain ⟨i, hi⟩ : ∃ k : Nat, n 18 % 3 = (k : Int) := ⟨(n 18 % 3).toNat, by omega⟩
  exact law_core (m := m) (c := fun k => n (1 + k) % 12) (w := fun k => n (9 + k) % 20) (b := n 17 % 40) ⟨hm, fun _ => rfl, fun _ => rfl, rfl⟩ hi
theorem law_true : ∀ x : Int, ∃ l s', mf__law_draws [.int x, .int 30] = .ok (.d true (.list l)) ∧ m_b_law (stL N_law.length l) = .rt false (.bool true) s' := law_by (kd := 30) rfl (by decide) law_out
end LW
namespace LW
open PySem PySem.Spec PyProof.Rows L2 DL
abbrev R : PySem.W.OpenRow := PySem.W.OpenLaw.row PySem.Challenge.rw_airfieldworks_k37_whole_flights_within_a
abbrev hk : PySem.W.Hook := He.hookX 4 fa fn [] tf ex
def ob (s : PySem.W.SharedT) : He.AlX := He.obsX 4 fa fn [] tf ex (HandSHeadRun.getT s)
theorem ob_eq (s : PySem.W.SharedT) : ob s = hk.obs s.abs := He.obsX_eq (HandSHeadRun.getT_eq s)
def loose : List Str := (["FieldError", "BadClaim", "is_whole", "most_flights", "best_worth", "part_bound", "by_ratio", "_law_cell", "_law_draws", "_law_low", "_law_refuses"] : List Str)
theorem run (w : World) : HandSHeadRun.RunEq R (PySem.W.view R.prog [15]) hk ob 60000 loose w := by
  intro os
  kernel_rfl
theorem no_out (w : World) (H : Hp) (s : Shared) (e : Value) (s' : Shared) (h : L2.CX (PySem.Challenge.rw_airfieldworks_k37_whole_flights_within_a).prog w [] H s (fun _ _ _ => False) e s') : False := by
  obtain ⟨_, _, _, _, _, _, _, _, _, _, _, _, z⟩ := h
  exact z
theorem fsC : FnScope ["script", "k"] ["script", "k"] (sc 11) := FnScope.ofB (by kernel_rfl)
theorem gC : goB (sc 11) "len" = true := by kernel_rfl
theorem law_ok {K : Fr} (c : He.SaysD fa fn K) : ∃ fd : FuncData, (∀ (s : Shared) (v : Value), BindsTo s fd ⟨[v], []⟩ [("script", v)]) ∧ ∀ (P : Program) (w : World) (mg : Str → Option Value) (base : Heap), Fx K mg base → FnOk P w K mg base (CX P w) 7 (He.ga K "law") fd ["script"] (spLaw K) := by
  obtain ⟨fdC, FC⟩ := c.def_ 5 (d := mk "_law_cell" 11 []) rfl
  obtain ⟨fd, G⟩ := c.def_ 9 (d := mk "law" 15 []) rfl
  have b := FunD.bindsA (ps := ["script"]) G fun _ _ _ _ _ _ us hl => match us, hl with | [_], _ => rfl
  have bC : Binds K fdC ["script", "k"] [] := FC.bindsN fun _ _ _ _ _ _ us hl => match us, hl with | [_, _], _ => rfl
  exact ⟨fd, fun s v => b s [v] rfl, fun P w mg base F => fn_law (p := ("law", none)) (N := N_law) (rest := (bd 15).tail) rfl G fs_law v_law_script l_law_n g_law__law_cell g_law__law_draws (ok_cell FC fsC gC (m_len F)) (m__law_cell F) FC.kp bC (d__law_draws F) (by decide) (by decide) (fun cd A outer s H E hcd hr => b_law F hcd hr) law_true⟩
theorem law_at {w : World} {h : Heap} {K : Fr} {mg : Str → Option Value} {fa0 : Addr} (X : K.In h) (G : h.Ns mainGlobals mg) (hmg : mg "law" = some (.ref fa0)) (c : He.SaysX fa fn [] tf ex w h K) :
    LamX.LawAtS PySem.Challenge.rw_airfieldworks_k37_whole_flights_within_a w K (CX (PySem.Challenge.rw_airfieldworks_k37_whole_flights_within_a).prog w) 7 63 "script" mg fa0 h := by
  have e := hmg.symm.trans (He.glo_ok X G (c.t.d.fact 9 (f := .glo "law") rfl))
  cases e
  obtain ⟨m3, m4⟩ := Bool.and_eq_true_iff.mp (show (_ && _) = true from c.more)
  obtain ⟨m1, m2⟩ := Bool.and_eq_true_iff.mp m3
  obtain ⟨fd, hb, hF⟩ := law_ok c.t.d
  refine ⟨fd, tf.map (He.cT K), spLaw K, fun p hp => ?_, fun p hp => ?_, fun p hp => ?_, hb, fun H a ns hl _ hH hS => ⟨a, ns, rfl, hS, fun t ht => ?_, fun _ => rfl⟩, fun base hbase hns htb => hF _ _ _ _ ⟨hbase, hns, c.t.d, c.hd, fun p hp => htb _ (List.mem_map.mpr ⟨p, hp, rfl⟩), fun p hp => ?_, fun p hp => List.all_eq_true.mp m4 p hp⟩⟩
  · obtain ⟨q, hq, rfl⟩ := List.mem_map.mp hp
    exact c.empty q hq
  · obtain ⟨q, hq, rfl⟩ := List.mem_map.mp hp
    exact c.out q hq
  · obtain ⟨q, hq, rfl⟩ := List.mem_map.mp hp
    exact PySem.W.codeHd_of_K X (c.hd q hq)
  · obtain ⟨q, hq, e⟩ := List.any_eq_true.mp (List.all_eq_true.mp m1 t ht)
    rw [← eq_of_beq e]
    exact ⟨_, hH _ (List.mem_map.mpr ⟨q, hq, rfl⟩), triples_nil⟩
  · exact List.contains_iff_mem.mp (List.all_eq_true.mp m2 p hp)
end LW
open PySem PySem.W PySem.Calls PyProof.Rows
theorem PySem.Challenge.cw_airfieldworks_k37_whole_flights_within_a_holds : PySem.Challenge.rw_airfieldworks_k37_whole_flights_within_a.Holds := by
  w_on; o_law
  refine HandSHeadRun.head_any (r := OpenLaw.row PySem.Challenge.rw_airfieldworks_k37_whole_flights_within_a) (q := view (OpenLaw.row PySem.Challenge.rw_airfieldworks_k37_whole_flights_within_a).prog [15]) (H := LW.hk) (ob := LW.ob) (M := 60000) (loose := LW.loose) (d := HandSHeadRun.topDef (OpenLaw.row PySem.Challenge.rw_airfieldworks_k37_whole_flights_within_a).prog 15) (kwd := []) LW.ob_eq
    (by kernel_rfl) (fun s => by kernel_rfl) LW.run (by kernel_rfl) (by kernel_rfl) (by kernel_rfl) (by rfl) (by first | assumption | decide +kernel) (by decide +kernel) ⟨rfl, rfl, rfl, rfl, rfl, by decide +kernel⟩ ?hw ?hc
  case hw => w_witness2
  case hc =>
    refine LamX.walk_ofTsE (l := PySem.Challenge.rw_airfieldworks_k37_whole_flights_within_a) (n := 63) (k := 7) (x := "script") (CX := fun w => L2.CX (OpenLaw.row PySem.Challenge.rw_airfieldworks_k37_whole_flights_within_a).prog w) rfl (by decide) (by kernel_rfl) ⟨rfl, by decide, by decide⟩ ?F LW.no_out
    intro w mg fa h Y G hmg0
    obtain ⟨K, KX, c⟩ := Y
    have hmg : mg ("law" : PySem.Str) = some (.ref fa) := by
      have e : (HandSHeadRun.topDef (OpenLaw.row PySem.Challenge.rw_airfieldworks_k37_whole_flights_within_a).prog 15).name = ("law" : PySem.Str) := by kernel_rfl
      rw [← e]
      exact hmg0
    exact ⟨K, KX, LW.law_at KX G hmg c⟩
