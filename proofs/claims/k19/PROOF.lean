import PyProof.Rows.All
import Wide.All
import OpenK.AllK
import Wide.FinOn
import HandS.ForMost
import HandS.Exc
import HandS.WordsExc
import HandS.Lambda
import HandS.Deep
import HandS.Walk
import HandS.ExcOwn
import HandS.IsInst
import HandS.TupAny
import HandS.TupMul
import HandS.Conv
import HandS.Zip
import HandS.Wide
import HandS.EndTab
import HandS.HeadHook4
import HandS.Head2
import HandS.ExcIs
import HandS.TryMany
import KE.DataMinMax
import PySem.Challenge.RW_kitchenhall_k19_whole_deeds_of_jugs
set_option linter.all false
set_option maxRecDepth 100000
set_option maxHeartbeats 2000000
set_option Elab.async false
/-! T1: values told as trees over the hand layer; what stands in a frame's slots; liftings of tree-level readings. -/
namespace T3
open L2 LamX PySem PyProof.Rows PySem.Spec

abbrev St := L2.St
structure Pm where
  K : PySem.W.Frag
  mg : Str → Option Value
  T : List (Addr × Str)
/-- an exception, by its class's name and its one field's value -/
structure Exc where
  name : Str
  arg : Option PyData
/-- what an expression gives, what a slot holds: a tree; a list of the frame's own that may be changed; a new list; the draws' hand -/
inductive R where
  | d (x : PyData)
  | own (xs : List PyData)
  | fr (xs : List PyData)
  | hand (L : Nat)
  | scr (ns : List Int)
  | adr (a : Addr)
abbrev Env3 := List (Option R)
abbrev Ad := Addr → Prop

/-! ### representation -/
def LstM (M : Ad) (H : Hp) (a : Addr) (xs : List V) : Prop := ¬ M a ∧ H a = some (.lst xs)
/-- the script -/
def ScrM (K : PySem.W.Frag) (M : Ad) (H : Hp) (a : Addr) (xs : List V) : Prop := (¬ M a ∧ ∃ o, H a = some (.frz o (.lst xs))) ∨ SqL K (fun _ => none) a xs
def TupM (K : PySem.W.Frag) (M : Ad) (H : Hp) (a : Addr) (xs : List V) : Prop := (¬ M a ∧ Rd H a (.tup xs)) ∨ SqT K (fun _ => none) a xs
theorem rd_none {a : Addr} {u : HO} (h : Rd (fun _ => none) a u) : False := by
  rcases h with h | ⟨o, h⟩ <;> cases h
theorem sqL_const {K : PySem.W.Frag} {H : Hp} {a : Addr} {xs : List V} (h : SqL K (fun _ => none) a xs) : SqL K H a xs := by
  rcases h with h | h
  · exact (rd_none h).elim
  · exact .inr h
theorem sqT_const {K : PySem.W.Frag} {H : Hp} {a : Addr} {xs : List V} (h : SqT K (fun _ => none) a xs) : SqT K H a xs := by
  rcases h with h | h
  · exact (rd_none h).elim
  · exact .inr h
section
variable {K : PySem.W.Frag} {M M' : Ad} {H H' H'' : Hp} {a : Addr} {xs : List V}
theorem LstM.sq (h : LstM M H a xs) : SqL K H a xs := .inl (.inl h.2)
theorem ScrM.sq (h : ScrM K M H a xs) : SqL K H a xs := h.elim (fun z => .inl (.inr z.2)) sqL_const
theorem TupM.sq (h : TupM K M H a xs) : SqT K H a xs := h.elim (fun z => .inl z.2) sqT_const
/-- what stands outside M stays, but for the tables -/
def Fm (M : Ad) (H H' : Hp) : Prop := ∀ b o, H b = some o → ¬ M b → (∀ ps, o ≠ .tbl ps) → H' b = some o
theorem Fm.of (e : ExtN H H') : Fm M H H' := fun b o q _ n => e b o q n
theorem Fm.refl : Fm M H H := fun _ _ q _ _ => q
theorem Fm.trans (e : Fm M H H') (e' : Fm M H' H'') : Fm M H H'' := fun b o q m n => e' b o (e b o q m n) m n
theorem Fm.rd {u : HO} (e : Fm M H H') (m : ¬ M a) (n : ∀ ps, u ≠ .tbl ps) (r : Rd H a u) : Rd H' a u := by
  rcases r with r | ⟨o, r⟩
  · exact .inl (e a u r m n)
  · exact .inr ⟨o, e a _ r m (fun ps q => by cases q)⟩
theorem LstM.fm (e : Fm M H H') (h : LstM M H a xs) : LstM M H' a xs := ⟨h.1, e _ _ h.2 h.1 (fun ps q => by cases q)⟩
theorem ScrM.fm (e : Fm M H H') (h : ScrM K M H a xs) : ScrM K M H' a xs := h.imp (fun ⟨z, o, q⟩ => ⟨z, o, e _ _ q z (fun ps q => by cases q)⟩) id
theorem TupM.fm (e : Fm M H H') (h : TupM K M H a xs) : TupM K M H' a xs := h.imp (fun z => ⟨z.1, e.rd z.1 (fun ps q => by cases q) z.2⟩) id
theorem LstM.anti (s : ∀ b, M' b → M b) (h : LstM M H a xs) : LstM M' H a xs := ⟨fun q => h.1 (s a q), h.2⟩
theorem ScrM.anti (s : ∀ b, M' b → M b) (h : ScrM K M H a xs) : ScrM K M' H a xs := h.imp (fun z => ⟨fun q => z.1 (s a q), z.2⟩) id
theorem TupM.anti (s : ∀ b, M' b → M b) (h : TupM K M H a xs) : TupM K M' H a xs := h.imp (fun z => ⟨fun q => z.1 (s a q), z.2⟩) id
end
/-! the value v is the tree d; nothing at M is looked at -/
mutual
inductive DM (K : PySem.W.Frag) (M : Ad) (H : Hp) : V → PyData → Prop
  | non : DM K M H .non .none
  | bl (b : Bool) : DM K M H (.bl b) (.bool b)
  | int (i : Int) : DM K M H (.int i) (.int i)
  | str (x : Str) : DM K M H (.str x) (.str x)
  | lst {a : Addr} {xs : List V} {ds : List PyData} : LstM M H a xs → DMs K M H xs ds → DM K M H (.ref a) (.list ds)
  | tup {a : Addr} {xs : List V} {ds : List PyData} : TupM K M H a xs → DMs K M H xs ds → DM K M H (.ref a) (.tuple ds)
  | dct0 {a : Addr} : ¬ M a → H a = some (.dK []) → DM K M H (.ref a) (.dict [])
inductive DMs (K : PySem.W.Frag) (M : Ad) (H : Hp) : List V → List PyData → Prop
  | nil : DMs K M H [] []
  | cons {v : V} {vs : List V} {d : PyData} {ds : List PyData} : DM K M H v d → DMs K M H vs ds → DMs K M H (v :: vs) (d :: ds)
end
section
variable {K : PySem.W.Frag} {M M' : Ad} {H H' : Hp}
mutual
theorem DM.fm (e : Fm M H H') : ∀ {v : V} {d : PyData}, DM K M H v d → DM K M H' v d
  | _, _, .non => .non
  | _, _, .bl b => .bl b
  | _, _, .int i => .int i
  | _, _, .str x => .str x
  | _, _, .lst h r => .lst (h.fm e) (DMs.fm e r)
  | _, _, .tup h r => .tup (h.fm e) (DMs.fm e r)
  | _, _, .dct0 m h => .dct0 m (e _ _ h m (fun ps q => by cases q))
theorem DMs.fm (e : Fm M H H') : ∀ {vs : List V} {ds : List PyData}, DMs K M H vs ds → DMs K M H' vs ds
  | _, _, .nil => .nil
  | _, _, .cons h r => .cons (DM.fm e h) (DMs.fm e r)
end
mutual
theorem DM.anti (s : ∀ b, M' b → M b) : ∀ {v : V} {d : PyData}, DM K M H v d → DM K M' H v d
  | _, _, .non => .non
  | _, _, .bl b => .bl b
  | _, _, .int i => .int i
  | _, _, .str x => .str x
  | _, _, .lst h r => .lst (h.anti s) (DMs.anti s r)
  | _, _, .tup h r => .tup (h.anti s) (DMs.anti s r)
  | _, _, .dct0 m h => .dct0 (fun q => m (s _ q)) h
theorem DMs.anti (s : ∀ b, M' b → M b) : ∀ {vs : List V} {ds : List PyData}, DMs K M H vs ds → DMs K M' H vs ds
  | _, _, .nil => .nil
  | _, _, .cons h r => .cons (DM.anti s h) (DMs.anti s r)
end
/-- nothing at p is looked at where p does not stand yet -/
def Off (H : Hp) (p : Addr) : Prop := ∀ o, H p = some o → ∃ ps, o = HO.tbl ps
theorem Off.of_none {p : Addr} (h : H p = none) : Off H p := fun o q => by rw [h] at q; cases q
theorem Off.back {p : Addr} (e : ExtN H H') (h : Off H' p) : Off H p := fun o q => by
  by_cases z : ∃ ps, o = HO.tbl ps
  · exact z
  · exact h o (e p o q fun ps w => z ⟨ps, w⟩)
theorem Off.rd {p a : Addr} {u : HO} (h : Off H p) (r : Rd H a u) (n : ∀ ps, u ≠ .tbl ps) : a ≠ p := by
  intro q
  subst q
  rcases r with r | ⟨o, r⟩
  · obtain ⟨ps, z⟩ := h _ r
    exact n ps z
  · obtain ⟨ps, z⟩ := h _ r
    cases z
theorem LstM.more {p a : Addr} {xs : List V} (h : Off H p) (l : LstM M H a xs) : LstM (fun b => M b ∨ b = p) H a xs :=
  ⟨fun q => q.elim l.1 (h.rd (.inl l.2) (fun ps q => by cases q)), l.2⟩
theorem ScrM.more {p a : Addr} {xs : List V} (h : Off H p) (l : ScrM K M H a xs) : ScrM K (fun b => M b ∨ b = p) H a xs :=
  l.imp (fun ⟨z, o, w⟩ => ⟨fun q => q.elim z (h.rd (.inl w) (fun ps q => by cases q)), o, w⟩) id
theorem TupM.more {p a : Addr} {xs : List V} (h : Off H p) (l : TupM K M H a xs) : TupM K (fun b => M b ∨ b = p) H a xs :=
  l.imp (fun z => ⟨fun q => q.elim z.1 (h.rd z.2 (fun ps q => by cases q)), z.2⟩) id
mutual
theorem DM.more {p : Addr} (h : Off H p) : ∀ {v : V} {d : PyData}, DM K M H v d → DM K (fun b => M b ∨ b = p) H v d
  | _, _, .non => .non
  | _, _, .bl b => .bl b
  | _, _, .int i => .int i
  | _, _, .str x => .str x
  | _, _, .lst l r => .lst (l.more h) (DMs.more h r)
  | _, _, .tup l r => .tup (l.more h) (DMs.more h r)
  | _, _, .dct0 m e => .dct0 (fun q => q.elim m (fun z => h.rd (.inl e) (fun ps q => by cases q) z)) e
theorem DMs.more {p : Addr} (h : Off H p) : ∀ {vs : List V} {ds : List PyData}, DMs K M H vs ds → DMs K (fun b => M b ∨ b = p) H vs ds
  | _, _, .nil => .nil
  | _, _, .cons l r => .cons (DM.more h l) (DMs.more h r)
end
theorem DMs.length : ∀ {vs : List V} {ds : List PyData}, DMs K M H vs ds → vs.length = ds.length
  | _, _, .nil => rfl
  | _, _, .cons _ r => by rw [List.length_cons, List.length_cons, DMs.length r]
theorem DMs.append : ∀ {vs ws : List V} {ds es : List PyData}, DMs K M H vs ds → DMs K M H ws es → DMs K M H (vs ++ ws) (ds ++ es)
  | _, _, _, _, .nil, s => s
  | _, _, _, _, .cons h r, s => .cons h (DMs.append r s)
theorem DMs.get : ∀ {vs : List V} {ds : List PyData} {i : Nat} {v : V}, DMs K M H vs ds → vs[i]? = some v → ∃ d, ds[i]? = some d ∧ DM K M H v d
  | _, _, _, _, .nil, e => by simp at e
  | _, _, 0, _, .cons h _, e => by
    have q := Option.some.inj (by simpa using e)
    subst q
    exact ⟨_, rfl, h⟩
  | _, _, i + 1, v, .cons _ r, e => by
    obtain ⟨d, h1, h2⟩ := DMs.get (i := i) (v := v) r (by simpa using e)
    exact ⟨d, by simpa using h1, h2⟩
theorem DMs.at : ∀ {vs : List V} {ds : List PyData} {i : Nat} {d : PyData}, DMs K M H vs ds → ds[i]? = some d → ∃ v, vs[i]? = some v ∧ DM K M H v d
  | _, _, _, _, .nil, e => by simp at e
  | _, _, 0, _, .cons h _, e => by
    have q := Option.some.inj (by simpa using e)
    subst q
    exact ⟨_, rfl, h⟩
  | _, _, i + 1, d, .cons _ r, e => by
    obtain ⟨v, h1, h2⟩ := DMs.at (i := i) (d := d) r (by simpa using e)
    exact ⟨v, by simpa using h1, h2⟩
theorem DMs.set {v : V} {d : PyData} (h : DM K M H v d) : ∀ {vs : List V} {ds : List PyData} (i : Nat), DMs K M H vs ds → DMs K M H (vs.set i v) (ds.set i d)
  | _, _, _, .nil => .nil
  | _, _, 0, .cons _ r => .cons h r
  | _, _, i + 1, .cons g r => .cons g (DMs.set h i r)
theorem DMs.take : ∀ {vs : List V} {ds : List PyData} (n : Nat), DMs K M H vs ds → DMs K M H (vs.take n) (ds.take n)
  | _, _, 0, _ => .nil
  | _, _, _ + 1, .nil => .nil
  | _, _, n + 1, .cons h r => .cons h (DMs.take n r)
theorem DMs.drop : ∀ {vs : List V} {ds : List PyData} (n : Nat), DMs K M H vs ds → DMs K M H (vs.drop n) (ds.drop n)
  | _, _, 0, r => r
  | _, _, _ + 1, .nil => .nil
  | _, _, n + 1, .cons _ r => DMs.drop n r
end

/-! ### the hand of draws -/
def HandP (a c : Addr) (L : Nat) (h : Heap) : Prop := ∃ (is : List Int) (us : List Value) (n : Nat),
  h.get? a = some { cls := .type "list", data := .seq (Value.ref c :: us).toArray n } ∧ Vals (is.map V.int) us ∧ is.length = L ∧ L ≤ 8 ∧ ∀ i ∈ is, 0 ≤ i
/-- a list of a list of ints (the cells) and of L ints, none below 0 -/
def HandO (a c : Addr) (L : Nat) : HO := .ext (HandP a c L)
def IsHand (L : Nat) (M : Ad) (H : Hp) (a : Addr) : Prop := ∃ (c : Addr) (ns : List Int), ¬ M a ∧ ¬ M c ∧ H a = some (HandO a c L) ∧ H c = some (.lst (ns.map V.int))
section
variable {K : PySem.W.Frag} {M M' : Ad} {H H' Hb : Hp} {a p : Addr} {v : V} {r : R} {L : Nat}
theorem IsHand.fm (e : Fm M H H') (h : IsHand L M H a) : IsHand L M H' a := by
  obtain ⟨c, ns, m1, m2, h1, h2⟩ := h
  exact ⟨c, ns, m1, m2, e _ _ h1 m1 (fun ps q => by cases q), e _ _ h2 m2 (fun ps q => by cases q)⟩
theorem IsHand.anti (s : ∀ b, M' b → M b) (h : IsHand L M H a) : IsHand L M' H a := by
  obtain ⟨c, ns, m1, m2, h1⟩ := h
  exact ⟨c, ns, fun q => m1 (s _ q), fun q => m2 (s _ q), h1⟩
theorem IsHand.more (o : Off H p) (h : IsHand L M H a) : IsHand L (fun b => M b ∨ b = p) H a := by
  obtain ⟨c, ns, m1, m2, h1, h2⟩ := h
  exact ⟨c, ns, fun q => q.elim m1 (o.rd (.inl h1) (fun ps q => by cases q)), fun q => q.elim m2 (o.rd (.inl h2) (fun ps q => by cases q)), h1, h2⟩

/-- a slot's value -/
def RS (K : PySem.W.Frag) (M : Ad) (H : Hp) (v : V) : R → Prop
  | .d x => DM K M H v x
  | .own xs => ∃ (a : Addr) (vs : List V), v = .ref a ∧ M a ∧ H a = some (.lst vs) ∧ DMs K M H vs xs
  | .fr _ => False
  | .hand L => ∃ a, v = .ref a ∧ IsHand L M H a
  | .scr ns => ∃ a, v = .ref a ∧ ScrM K M H a (ns.map V.int)
  | .adr b => v = .ref b
/-- an expression's value; Hb: the heap ahead of it -/
def RR (K : PySem.W.Frag) (M : Ad) (Hb H : Hp) (v : V) : R → Prop
  | .d x => DM K M H v x
  | .own xs => ∃ (a : Addr) (vs : List V), v = .ref a ∧ M a ∧ H a = some (.lst vs) ∧ DMs K M H vs xs
  | .fr xs => ∃ (p : Addr) (vs : List V), v = .ref p ∧ Off Hb p ∧ H p = some (.lst vs) ∧ DMs K (fun b => M b ∨ b = p) H vs xs
  | .hand L => ∃ a, v = .ref a ∧ IsHand L M H a
  | .scr ns => ∃ a, v = .ref a ∧ ScrM K M H a (ns.map V.int)
  | .adr b => v = .ref b
theorem RS.ext (e : ExtN H H') (h : RS K M H v r) : RS K M H' v r := by
  cases r with
  | d x => exact DM.fm (.of e) h
  | own xs =>
    obtain ⟨a, vs, e1, m, e2, e3⟩ := h
    exact ⟨a, vs, e1, m, e _ _ e2 (fun ps q => by cases q), DMs.fm (.of e) e3⟩
  | fr xs => exact h
  | hand L =>
    obtain ⟨a, e1, h⟩ := h
    exact ⟨a, e1, h.fm (.of e)⟩
  | scr ns =>
    obtain ⟨a, e1, h⟩ := h
    exact ⟨a, e1, h.fm (.of e)⟩
  | adr b => exact h
theorem RR.ext (e : ExtN H H') (h : RR K M Hb H v r) : RR K M Hb H' v r := by
  cases r with
  | d x => exact DM.fm (.of e) h
  | own xs =>
    obtain ⟨a, vs, e1, m, e2, e3⟩ := h
    exact ⟨a, vs, e1, m, e _ _ e2 (fun ps q => by cases q), DMs.fm (.of e) e3⟩
  | fr xs =>
    obtain ⟨p, vs, e1, o, e2, e3⟩ := h
    exact ⟨p, vs, e1, o, e _ _ e2 (fun ps q => by cases q), DMs.fm (.of e) e3⟩
  | hand L =>
    obtain ⟨a, e1, h⟩ := h
    exact ⟨a, e1, h.fm (.of e)⟩
  | scr ns =>
    obtain ⟨a, e1, h⟩ := h
    exact ⟨a, e1, h.fm (.of e)⟩
  | adr b => exact h
/-- .. told from further back -/
theorem RR.back {Ha : Hp} (e : ExtN Ha Hb) (h : RR K M Hb H v r) : RR K M Ha H v r := by
  cases r with
  | d x => exact h
  | own xs => exact h
  | fr xs =>
    obtain ⟨p, vs, e1, o, e2, e3⟩ := h
    exact ⟨p, vs, e1, o.back e, e2, e3⟩
  | hand L => exact h
  | scr ns => exact h
  | adr b => exact h
theorem RS.rr (h : RS K M H v r) : RR K M H H v r := by
  cases r with
  | d x => exact h
  | own xs => exact h
  | fr xs => exact False.elim h
  | hand L => exact h
  | scr ns => exact h
  | adr b => exact h
/-- read, whatever it is -/
def R.wk : R → (PyData → Prop) → Prop
  | .d x, k => k x
  | .own xs, k => k (.list xs)
  | .fr xs, k => k (.list xs)
  | .hand _, _ => False
  | .scr _, _ => False
  | .adr _, _ => False
/-- a value read: a tree, or a list (whoever's it is) of trees -/
def WR (K : PySem.W.Frag) (M : Ad) (H : Hp) (v : V) (x : PyData) : Prop :=
  DM K M H v x ∨ ∃ (p : Addr) (vs : List V) (xs : List PyData), v = .ref p ∧ x = .list xs ∧ H p = some (.lst vs) ∧ DMs K M H vs xs
theorem WR.ext {x : PyData} (e : ExtN H H') (h : WR K M H v x) : WR K M H' v x :=
  h.imp (fun z => DM.fm (.of e) z) fun ⟨p, vs, xs, e1, e2, e3, e4⟩ => ⟨p, vs, xs, e1, e2, e _ _ e3 (fun ps q => by cases q), DMs.fm (.of e) e4⟩
theorem RR.weak {k : PyData → Prop} (h : RR K M Hb H v r) (q : r.wk k) : ∃ x, WR K M H v x ∧ k x := by
  cases r with
  | d x => exact ⟨x, .inl h, q⟩
  | own xs =>
    obtain ⟨a, vs, e1, m, e2, e3⟩ := h
    exact ⟨_, .inr ⟨a, vs, xs, e1, rfl, e2, e3⟩, q⟩
  | fr xs =>
    obtain ⟨p, vs, e1, o, e2, e3⟩ := h
    exact ⟨_, .inr ⟨p, vs, xs, e1, rfl, e2, DMs.anti (fun b z => .inl z) e3⟩, q⟩
  | hand L => exact False.elim q
  | scr ns => exact False.elim q
  | adr b => exact False.elim q
/-- kept, as a tree: a new list becomes one, a list of the frame's own does not -/
def R.st : R → (PyData → Prop) → Prop
  | .d x, k => k x
  | .fr xs, k => k (.list xs)
  | .own _, _ => False
  | .hand _, _ => False
  | .scr _, _ => False
  | .adr _, _ => False
theorem RR.strong {k : PyData → Prop} (hm : ∀ b, M b → ¬ Off Hb b) (h : RR K M Hb H v r) (q : r.st k) : ∃ x, DM K M H v x ∧ k x := by
  cases r with
  | d x => exact ⟨x, h, q⟩
  | own xs => exact False.elim q
  | fr xs =>
    obtain ⟨p, vs, e1, o, e2, e3⟩ := h
    subst e1
    exact ⟨_, .lst ⟨fun z => hm p z o, e2⟩ (DMs.anti (fun b z => .inl z) e3), q⟩
  | hand L => exact False.elim q
  | scr ns => exact False.elim q
  | adr b => exact False.elim q
/-- an argument: a tree or the hand -/
def R.ar : R → (R → Prop) → Prop
  | .d x, k => k (.d x)
  | .fr xs, k => k (.d (.list xs))
  | .own _, _ => False
  | .hand L, k => k (.hand L)
  | .scr ns, k => k (.scr ns)
  | .adr _, _ => False
def RA (K : PySem.W.Frag) (M : Ad) (H : Hp) (v : V) : R → Prop
  | .d x => DM K M H v x
  | .own _ => False
  | .fr _ => False
  | .hand L => ∃ a, v = .ref a ∧ IsHand L M H a
  | .scr ns => ∃ a, v = .ref a ∧ ScrM K M H a (ns.map V.int)
  | .adr _ => False
theorem RR.arg {k : R → Prop} (hm : ∀ b, M b → ¬ Off Hb b) (h : RR K M Hb H v r) (q : r.ar k) : ∃ r', RA K M H v r' ∧ k r' := by
  cases r with
  | d x => exact ⟨.d x, h, q⟩
  | own xs => exact False.elim q
  | fr xs =>
    obtain ⟨x, h1, h2⟩ := RR.strong (r := .fr xs) (k := fun x => k (.d x)) hm h q
    exact ⟨.d x, h1, h2⟩
  | hand L => exact ⟨.hand L, h, q⟩
  | scr ns => exact ⟨.scr ns, h, q⟩
  | adr b => exact False.elim q
theorem RA.ext (e : ExtN H H') (h : RA K M H v r) : RA K M H' v r := by
  cases r with
  | d x => exact DM.fm (.of e) h
  | own xs => exact h
  | fr xs => exact h
  | hand L =>
    obtain ⟨a, e1, h⟩ := h
    exact ⟨a, e1, h.fm (.of e)⟩
  | scr ns =>
    obtain ⟨a, e1, h⟩ := h
    exact ⟨a, e1, h.fm (.of e)⟩
  | adr b => exact h
theorem RA.rs (h : RA K M H v r) : RS K M H v r := by
  cases r with
  | d x => exact h
  | own xs => exact False.elim h
  | fr xs => exact False.elim h
  | hand L => exact h
  | scr ns => exact h
  | adr b => exact False.elim h
end

/-! ### what stands in a frame's slots -/
/-- an exception's class and its field, in the heap -/
def RX (P : Pm) (M : Ad) (x : Exc) (cls : Value) (d : Option Addr) (H : Hp) : Prop :=
  ∃ C, P.mg x.name = some (.ref C) ∧ cls = .ref C ∧ match x.arg with
    | none => d = none
    | some t => ∃ dd f v, d = some dd ∧ H dd = some (.xd [(f, v)]) ∧ DM P.K M H v t
structure RE (P : Pm) (H0 : Hp) (M0 M : Ad) (H : Hp) (σ : St) (ρ : Env3) : Prop where
  ext : ExtN H0 H
  tabs : Tabs P.T H
  m0 : ∀ a, M0 a → M a
  mdom : ∀ a, M a → ¬ Off H a
  mown : ∀ a, M a → M0 a ∨ Off H0 a
  m0dom : ∀ a, M0 a → ¬ Off H0 a
  slot : ∀ (i : Nat) (r : R), ρ[i]? = some (some r) → ∃ v, σ[i]? = some (some v) ∧ RS P.K M H v r
  ownf : ∀ (i : Nat) (xs : List PyData) (a : Addr), ρ[i]? = some (some (.own xs)) → σ[i]? = some (some (.ref a)) → Off H0 a
  ownd : ∀ (i j : Nat) (xs ys : List PyData) (a : Addr), i ≠ j → ρ[i]? = some (some (.own xs)) → ρ[j]? = some (some (.own ys)) → σ[i]? = some (some (.ref a)) → σ[j]? ≠ some (some (.ref a))
  len : ρ.length = σ.length
section
variable {P : Pm} {H0 H H' : Hp} {M0 M : Ad} {σ : St} {ρ : Env3}
/-- the heap grew -/
theorem RE.grow (r : RE P H0 M0 M H σ ρ) (e : ExtN H H') (t : Tabs P.T H') : RE P H0 M0 M H' σ ρ where
  ext := r.ext.trans e
  tabs := t
  m0 := r.m0
  mdom := fun a m o => r.mdom a m (o.back e)
  mown := r.mown
  m0dom := r.m0dom
  slot := fun i z q => by
    obtain ⟨v, h1, h2⟩ := r.slot i z q
    exact ⟨v, h1, h2.ext e⟩
  ownf := r.ownf
  ownd := r.ownd
  len := r.len
end

theorem RX.anti {P : Pm} {M M' : Ad} {x : Exc} {cls : Value} {d : Option Addr} {H : Hp} (s : ∀ b, M' b → M b) (h : RX P M x cls d H) : RX P M' x cls d H := by
  obtain ⟨C, h1, h2, h3⟩ := h
  refine ⟨C, h1, h2, ?_⟩
  cases e : x.arg with
  | none => rw [e] at h3; exact h3
  | some t =>
    rw [e] at h3
    obtain ⟨dd, f, v, e1, e2, e3⟩ := h3
    exact ⟨dd, f, v, e1, e2, DM.anti s e3⟩
/-- what is wanted of the exceptions that an expression lets out -/
def XOk (P : Pm) (E : XK) (XW : Exc → Prop) (M : Ad) (H : Hp) : Prop := ∀ x cls d H', XW x → ExtN H H' → Tabs P.T H' → RX P M x cls d H' → E cls d H'
theorem XOk.grow {P : Pm} {E : XK} {XW : Exc → Prop} {M : Ad} {H H1 : Hp} (h : XOk P E XW M H) (e : ExtN H H1) : XOk P E XW M H1 := fun x cls d H' hx e' t r => h x cls d H' hx (e.trans e') t r
theorem XOk.sub {P : Pm} {E : XK} {XW : Exc → Prop} {M M' : Ad} {H : Hp} (h : XOk P E XW M H) (s : ∀ b, M b → M' b) : XOk P E XW M' H := fun x cls d H' hx e' t r => h x cls d H' hx e' t (r.anti s)
theorem XOk.no {P : Pm} {E : XK} {M : Ad} {H : Hp} : XOk P E (fun _ => False) M H := fun _ _ _ _ h => h.elim
/-! ### tree-level readings and their liftings -/
abbrev W := Env3 → (R → Prop) → (Exc → Prop) → Prop
abbrev WB := Env3 → (Bool → Prop) → (Exc → Prop) → Prop
abbrev WA := Env3 → (List R → Prop) → (Exc → Prop) → Prop
abbrev WG := PyData → Env3 → (Env3 → Prop) → Prop
structure End3 where
  nx : Env3 → Prop
  rt : R → Prop
  bk : Env3 → Prop := fun _ => False
  ct : Env3 → Prop := fun _ => False
abbrev WS := End3 → Env3 → (Exc → Prop) → Prop
def lift (P : Pm) (E : XK) (w : W) : TE := fun σ H Q => ∃ H0 M0 M ρ XW Q3, RE P H0 M0 M H σ ρ ∧ XOk P E XW M H ∧ w ρ Q3 XW ∧
  ∀ r v H', Q3 r → ExtN H H' → Tabs P.T H' → RR P.K M H H' v r → Q v H'
def liftB (P : Pm) (E : XK) (w : WB) : TT := fun σ H Q => ∃ H0 M0 M ρ XW Q3, RE P H0 M0 M H σ ρ ∧ XOk P E XW M H ∧ w ρ Q3 XW ∧
  ∀ b H', Q3 b → ExtN H H' → Tabs P.T H' → Q b H'
/-- argument by argument, each a tree or the hand -/
inductive RAs (K : PySem.W.Frag) (M : Ad) (H : Hp) : List V → List R → Prop
  | nil : RAs K M H [] []
  | cons {v : V} {vs : List V} {r : R} {rs : List R} : RA K M H v r → RAs K M H vs rs → RAs K M H (v :: vs) (r :: rs)
theorem RAs.ext {K : PySem.W.Frag} {M : Ad} {H H' : Hp} (e : ExtN H H') : ∀ {vs : List V} {rs : List R}, RAs K M H vs rs → RAs K M H' vs rs
  | _, _, .nil => .nil
  | _, _, .cons h r => .cons (h.ext e) (RAs.ext e r)
theorem RAs.length {K : PySem.W.Frag} {M : Ad} {H : Hp} : ∀ {vs : List V} {rs : List R}, RAs K M H vs rs → vs.length = rs.length
  | _, _, .nil => rfl
  | _, _, .cons _ r => by rw [List.length_cons, List.length_cons, RAs.length r]
def liftA (P : Pm) (E : XK) (w : WA) : TA := fun σ H Q => ∃ H0 M0 M ρ XW Q3, RE P H0 M0 M H σ ρ ∧ XOk P E XW M H ∧ w ρ Q3 XW ∧
  ∀ rs vs H', Q3 rs → ExtN H H' → Tabs P.T H' → RAs P.K M H' vs rs → Q vs H'
structure EndsOk (P : Pm) (E : XK) (XW : Exc → Prop) (H0 : Hp) (M0 : Ad) (D3 : End3) (D : Ends) : Prop where
  nx : ∀ ρ' M' H' σ', D3.nx ρ' → RE P H0 M0 M' H' σ' ρ' → D.nx σ' H'
  bk : ∀ ρ' M' H' σ', D3.bk ρ' → RE P H0 M0 M' H' σ' ρ' → D.bk σ' H'
  ct : ∀ ρ' M' H' σ', D3.ct ρ' → RE P H0 M0 M' H' σ' ρ' → D.ct σ' H'
  ex : ∀ x cls d H', XW x → ExtN H0 H' → Tabs P.T H' → RX P M0 x cls d H' → E cls d H'
  rt : ∀ r v H', D3.rt r → ExtN H0 H' → Tabs P.T H' → RR P.K M0 H0 H' v r → D.rt v H'
theorem EndsOk.xo {P : Pm} {E : XK} {XW : Exc → Prop} {H0 H : Hp} {M0 M : Ad} {D3 : End3} {D : Ends} {σ : St} {ρ : Env3} (k : EndsOk P E XW H0 M0 D3 D) (re : RE P H0 M0 M H σ ρ) : XOk P E XW M H :=
  fun x cls d H' hx e t r => k.ex x cls d H' hx (re.ext.trans e) t (r.anti re.m0)
def liftS (P : Pm) (E : XK) (w : WS) : TS := fun D σ H => ∃ H0 M0 M ρ XW D3, RE P H0 M0 M H σ ρ ∧ w D3 ρ XW ∧ EndsOk P E XW H0 M0 D3 D
abbrev pm (X : Cx) (T : List (Addr × Str)) : Pm := ⟨X.K, X.mg, T⟩

/-! ### weaker readings -/
section
variable {X : Cx}
theorem PEimp {e : Expr} {t t' : TE} (h : PE X e t) (f : ∀ σ H Q, t' σ H Q → t σ H Q) : PE X e t' := ⟨fun pins s σ H Q I q => h.run pins s σ H Q I (f _ _ _ q)⟩
theorem PTimp {e : Expr} {t t' : TT} (h : PT X e t) (f : ∀ σ H Q, t' σ H Q → t σ H Q) : PT X e t' := ⟨fun pins s σ H Q I q => h.run pins s σ H Q I (f _ _ _ q)⟩
theorem PWimp {e : Expr} {t t' : TT} (h : PW X e t) (f : ∀ σ H Q, t' σ H Q → t σ H Q) : PW X e t' := ⟨fun wh pins s σ H Q I q => h.run wh pins s σ H Q I (f _ _ _ q)⟩
theorem PAimp {es : List Expr} {t t' : TA} (h : PA X es t) (f : ∀ σ H Q, t' σ H Q → t σ H Q) : PA X es t' := ⟨fun pos pins s σ H Q I q => h.run pos pins s σ H Q I (f _ _ _ q)⟩
theorem PSimp {st : Stmt} {t t' : TS} (h : PS X st t) (f : ∀ D σ H, t' D σ H → t D σ H) : PS X st t' := ⟨fun pins s σ H D I q => h.run pins s σ H D I (f _ _ _ q)⟩
theorem PSsimp {st : List Stmt} {t t' : TS} (h : PSs X st t) (f : ∀ D σ H, t' D σ H → t D σ H) : PSs X st t' := ⟨fun pins s σ H D I q => h.run pins s σ H D I (f _ _ _ q)⟩
theorem PGimp {e : Expr} {t t' : TG} (h : PG X e t) (f : ∀ v σ H Q, t' v σ H Q → t v σ H Q) : PG X e t' := ⟨fun pins s σ H v u Q I r q => h.run pins s σ H v u Q I r (f _ _ _ _ q)⟩
end
end T3
set_option linter.all false
set_option maxRecDepth 100000
set_option maxHeartbeats 2000000
set_option Elab.async false
/-! T2: rules for expressions, tree by tree. -/
namespace T3
open L2 LamX PySem PyProof.Rows PySem.Spec

/-! ### a fresh object -/
section
variable {K : PySem.W.Frag} {T : List (Addr × Str)} {M : Ad} {H H' : Hp} {p : Addr}
theorem ext_new {o : HO} (h : H p = none) : ExtN H (upd H p o) := fun b u q _ => by
  rw [upd_ne (ne_of_none q h)]
  exact q
theorem tabs_new {o : HO} (t : Tabs T H) (h : H p = none) : Tabs T (upd H p o) := t.ext fun b u q => by
  rw [upd_ne (ne_of_none q h)]
  exact q
theorem notM_new (hm : ∀ a, M a → ¬ Off H a) (e : ExtN H H') (h : H' p = none) : ¬ M p := fun m => hm p m ((Off.of_none h).back e)
theorem tup_new {vs : List V} {xs : List PyData} (hm : ∀ a, M a → ¬ Off H a) (e : ExtN H H') (h : H' p = none) (r : DMs K M H' vs xs) : DM K M (upd H' p (.tup vs)) (.ref p) (.tuple xs) :=
  .tup (.inl ⟨notM_new hm e h, .inl upd_same⟩) (DMs.fm (.of (ext_new h)) r)
theorem lst_new {vs : List V} {xs : List PyData} (e : ExtN H H') (h : H' p = none) (r : DMs K M H' vs xs) : RR K M H (upd H' p (.lst vs)) (.ref p) (.fr xs) :=
  ⟨p, vs, rfl, (Off.of_none h).back e, upd_same, DMs.fm (.of (ext_new h)) (DMs.more (Off.of_none h) r)⟩
end

/-! ### slots and constants -/
def wV (i : Nat) : W := fun ρ Q _ => ∃ r, ρ[i]? = some (some r) ∧ Q r
def wC (x : PyData) : W := fun _ Q _ => Q (.d x)
section
variable {X : Cx} {T : List (Addr × Str)} {E : XK} {e a b : Expr} {pos : Pos}
theorem ev_var {i : Nat} (h : PE X e (tVar i)) : PE X e (lift (pm X T) E (wV i)) := PEimp h fun σ H Q ⟨H0, M0, M, ρ, XW, Q3, re, xo, ⟨r, hr, q⟩, k⟩ => by
  obtain ⟨v, h1, h2⟩ := re.slot i r hr
  exact ⟨v, h1, k r v H q (ExtN.refl H) re.tabs h2.rr⟩
theorem ev_c {v : V} {x : PyData} (h : PE X e (tC v)) (hx : ∀ K M H, DM K M H v x) : PE X e (lift (pm X T) E (wC x)) := PEimp h fun σ H Q ⟨H0, M0, M, ρ, XW, Q3, re, xo, q, k⟩ =>
  k _ v H q (ExtN.refl H) re.tabs (hx _ _ _)
theorem ev_int {i : Int} {j pos} : PE X (.Constant (.int i) j pos) (lift (pm X T) E (wC (.int i))) := ev_c pe_int fun _ _ _ => .int i
theorem ev_bl {b : Bool} {j pos} : PE X (.Constant (.bool b) j pos) (lift (pm X T) E (wC (.bool b))) := ev_c pe_bl fun _ _ _ => .bl b
theorem ev_non {j pos} : PE X (.Constant .none j pos) (lift (pm X T) E (wC .none)) := ev_c pe_non fun _ _ _ => .non
theorem ev_str {x : Str} {j pos} : PE X (.Constant (.str x) j pos) (lift (pm X T) E (wC (.str x))) := ev_c pe_str fun _ _ _ => .str x

/-! ### lists of arguments -/
abbrev WL := Env3 → (List PyData → Prop) → (Exc → Prop) → Prop
abbrev Rel := PySem.W.Frag → Ad → Hp → V → PyData → Prop
structure Sel (Rl : Rel) (sel : R → (PyData → Prop) → Prop) : Prop where
  ext : ∀ {K M H H' v x}, ExtN H H' → Rl K M H v x → Rl K M H' v x
  get : ∀ {K M Hb H v r} {k : PyData → Prop}, (∀ b, M b → ¬ Off Hb b) → RR K M Hb H v r → sel r k → ∃ x, Rl K M H v x ∧ k x
theorem selS : Sel DM R.st := ⟨fun e h => DM.fm (.of e) h, fun hm h q => RR.strong hm h q⟩
theorem selW : Sel WR R.wk := ⟨fun e h => WR.ext e h, fun _ h q => RR.weak h q⟩
def liftL (Rl : Rel) (P : Pm) (E : XK) (n : Nat) (w : WL) : TA := fun σ H Q => ∃ H0 M0 M ρ XW Q3, RE P H0 M0 M H σ ρ ∧ XOk P E XW M H ∧ w ρ Q3 XW ∧
  ∀ xs vs H', Q3 xs → ExtN H H' → Tabs P.T H' → vs.length = n → Paired (Rl P.K M H') vs xs → Q vs H'
def wNil : WL := fun _ Q _ => Q []
def wCons (sel : R → (PyData → Prop) → Prop) (w : W) (ws : WL) : WL := fun ρ Q X => w ρ (fun r => sel r fun x => ws ρ (fun xs => Q (x :: xs)) X) X
theorem el_nil {Rl : Rel} : PA X [] (liftL Rl (pm X T) E 0 wNil) := PAimp pa_nil fun σ H Q ⟨H0, M0, M, ρ, XW, Q3, re, xo, q, k⟩ =>
  k [] [] H q (ExtN.refl H) re.tabs rfl .nil
theorem el_cons {Rl : Rel} {sel : R → (PyData → Prop) → Prop} {es : List Expr} {n : Nat} {w : W} {ws : WL} (S : Sel Rl sel) (he : PE X e (lift (pm X T) E w)) (hr : PA X es (liftL Rl (pm X T) E n ws))
    (hs : starEach (e :: es) X.env = (false, eval e X.env) :: starEach es X.env := by rfl) : PA X (e :: es) (liftL Rl (pm X T) E (n + 1) (wCons sel w ws)) := by
  refine PAimp (pa_cons he hr hs) fun σ H Q ⟨H0, M0, M, ρ, XW, Q3, re, xo, q, k⟩ => ?_
  refine ⟨H0, M0, M, ρ, XW, _, re, xo, q, fun r v H1 qr e1 t1 rr => ?_⟩
  obtain ⟨x, hx, qx⟩ := S.get re.mdom rr qr
  refine ⟨H0, M0, M, ρ, XW, _, re.grow e1 t1, xo.grow e1, qx, fun xs vs H2 q2 e2 t2 hl hp => ?_⟩
  exact k (x :: xs) (v :: vs) H2 q2 (e1.trans e2) t2 (by rw [List.length_cons, hl]) (.cons (S.ext e2 hx) hp)
theorem DMs.of_paired {K : PySem.W.Frag} {M : Ad} {H : Hp} : ∀ {vs : List V} {xs : List PyData}, Paired (DM K M H) vs xs → DMs K M H vs xs
  | _, _, .nil => .nil
  | _, _, .cons h r => .cons h (DMs.of_paired r)
theorem DMs.paired {K : PySem.W.Frag} {M : Ad} {H : Hp} : ∀ {vs : List V} {xs : List PyData}, DMs K M H vs xs → Paired (DM K M H) vs xs
  | _, _, .nil => .nil
  | _, _, .cons h r => .cons h (DMs.paired r)

/-! ### displays -/
def wTup (ws : WL) : W := fun ρ Q X => ws ρ (fun xs => Q (.d (.tuple xs))) X
def wLst (ws : WL) : W := fun ρ Q X => ws ρ (fun xs => Q (.fr xs)) X
theorem ev_tup {es : List Expr} {n : Nat} {ws : WL} {x1} (h : PA X es (liftL DM (pm X T) E n ws)) (hn : n ≤ sizeLine := by decide) : PE X (.Tuple es x1 pos) (lift (pm X T) E (wTup ws)) := by
  refine PEimp (pe_tup h) fun σ H Q ⟨H0, M0, M, ρ, XW, Q3, re, xo, q, k⟩ => ?_
  refine ⟨H0, M0, M, ρ, XW, _, re, xo, q, fun xs vs H1 q1 e1 t1 hl hp => ⟨by omega, fun p np => ?_⟩⟩
  exact k _ _ _ q1 (e1.trans (ext_new np)) (tabs_new t1 np) (tup_new re.mdom e1 np (DMs.of_paired hp))
theorem ev_lst {es : List Expr} {n : Nat} {ws : WL} (h : PA X es (liftL DM (pm X T) E n ws)) (hn : n ≤ sizeLine := by decide) : PE X (.List es pos) (lift (pm X T) E (wLst ws)) := by
  refine PEimp (pe_lst h) fun σ H Q ⟨H0, M0, M, ρ, XW, Q3, re, xo, q, k⟩ => ?_
  refine ⟨H0, M0, M, ρ, XW, _, re, xo, q, fun xs vs H1 q1 e1 t1 hl hp => ⟨by omega, fun p np => ?_⟩⟩
  exact k _ _ _ q1 (e1.trans (ext_new np)) (tabs_new t1 np) (lst_new e1 np (DMs.of_paired hp))
/-- {} -/
theorem ev_dct0 : PE X (.Dict [] [] pos) (lift (pm X T) E (wC (.dict []))) := PEimp pe_dnewK fun σ H Q ⟨H0, M0, M, ρ, XW, Q3, re, xo, q, k⟩ p np =>
  k _ _ _ q (ext_new np) (tabs_new re.tabs np) (.dct0 (notM_new re.mdom (ExtN.refl H) np) upd_same)

/-! ### operators -/
abbrev Op2 := PyData → PyData → (R → Prop) → Prop
abbrev OpL := List PyData → (R → Prop) → Prop
def rD (P : Pm) (o : Op2) : R2 := fun x y H Q => ∃ (M : Ad) (d e : PyData) (Q3 : R → Prop), (∀ a, M a → ¬ Off H a) ∧ Tabs P.T H ∧ WR P.K M H x d ∧ WR P.K M H y e ∧ o d e Q3 ∧
  ∀ r v H', Q3 r → ExtN H H' → Tabs P.T H' → RR P.K M H H' v r → Q v H'
def rDs (P : Pm) (o : OpL) : List V → Hp → VK → Prop := fun vs H Q => ∃ (M : Ad) (ds : List PyData) (Q3 : R → Prop), (∀ a, M a → ¬ Off H a) ∧ Tabs P.T H ∧ Paired (WR P.K M H) vs ds ∧ o ds Q3 ∧
  ∀ r v H', Q3 r → ExtN H H' → Tabs P.T H' → RR P.K M H H' v r → Q v H'
def rD1 (P : Pm) (o : PyData → (R → Prop) → Prop) : V → Hp → VK → Prop := fun x H Q => ∃ (M : Ad) (d : PyData) (Q3 : R → Prop), (∀ a, M a → ¬ Off H a) ∧ Tabs P.T H ∧ WR P.K M H x d ∧ o d Q3 ∧
  ∀ r v H', Q3 r → ExtN H H' → Tabs P.T H' → RR P.K M H H' v r → Q v H'
def wOp (o : Op2) (a b : W) : W := fun ρ Q X => a ρ (fun r => r.wk fun x => b ρ (fun s => s.wk fun y => o x y Q) X) X
def wUn (o : PyData → (R → Prop) → Prop) (a : W) : W := fun ρ Q X => a ρ (fun r => r.wk fun x => o x Q) X
def wCall (o : OpL) (ws : WL) : W := fun ρ Q X => ws ρ (fun xs => o xs Q) X
theorem top_lift {o : Op2} {wa wb : W} {σ : St} {H : Hp} {Q : VK} (h : lift (pm X T) E (wOp o wa wb) σ H Q) : tOp (rD (pm X T) o) (lift (pm X T) E wa) (lift (pm X T) E wb) σ H Q := by
  obtain ⟨H0, M0, M, ρ, XW, Q3, re, xo, q, k⟩ := h
  refine ⟨H0, M0, M, ρ, XW, _, re, xo, q, fun r v H1 qr e1 t1 rr => ?_⟩
  obtain ⟨x, hx, qx⟩ := rr.weak qr
  refine ⟨H0, M0, M, ρ, XW, _, re.grow e1 t1, xo.grow e1, qx, fun s u H2 qs e2 t2 rs => ?_⟩
  obtain ⟨y, hy, qy⟩ := rs.weak qs
  have re2 := re.grow (e1.trans e2) t2
  exact ⟨M, x, y, Q3, re2.mdom, t2, hx.ext e2, hy, qy, fun r' v' H3 q3 e3 t3 rr3 => k r' v' H3 q3 ((e1.trans e2).trans e3) t3 (rr3.back (e1.trans e2))⟩
theorem ev_op {op : Operator} {o : Op2} {wa wb : W} (ho : OpR X (binaryOp op) (rD (pm X T) o)) (ha : PE X a (lift (pm X T) E wa)) (hb : PE X b (lift (pm X T) E wb)) :
    PE X (.BinOp a op b pos) (lift (pm X T) E (wOp o wa wb)) := PEimp (pe_op ho ha hb) fun _ _ _ h => top_lift h
theorem ev_cmp {op : CmpOp} {o : Op2} {wa wb : W} (ho : OpR X (compareOp op) (rD (pm X T) o)) (ha : PE X a (lift (pm X T) E wa)) (hb : PE X b (lift (pm X T) E wb)) (hm : behindInMarks op b = false) :
    PE X (.Compare a [op] [b] pos) (lift (pm X T) E (wOp o wa wb)) := PEimp (pe_cmpR ho ha hb hm) fun _ _ _ h => top_lift h
theorem ev_ix {o : Op2} {wa wb : W} (ho : IxR X (rD (pm X T) o)) (ha : PE X a (lift (pm X T) E wa)) (hb : PE X b (lift (pm X T) E wb)) (hs : PlainIx b) :
    PE X (.Subscript a b pos) (lift (pm X T) E (wOp o wa wb)) := PEimp (pe_ix ho ha hb hs) fun _ _ _ h => top_lift h
theorem ev_un {op : UnaryOp} {o : PyData → (R → Prop) → Prop} {wa : W} (ho : UnR X (unaryOp op) (rD1 (pm X T) o)) (ha : PE X a (lift (pm X T) E wa)) :
    PE X (.UnaryOp op a pos) (lift (pm X T) E (wUn o wa)) := PEimp (pe_un ho ha) fun σ H Q ⟨H0, M0, M, ρ, XW, Q3, re, xo, q, k⟩ => by
  refine ⟨H0, M0, M, ρ, XW, _, re, xo, q, fun r v H1 qr e1 t1 rr => ?_⟩
  obtain ⟨x, hx, qx⟩ := rr.weak qr
  exact ⟨M, x, Q3, (re.grow e1 t1).mdom, t1, hx, qx, fun r' v' H3 q3 e3 t3 rr3 => k r' v' H3 q3 (e1.trans e3) t3 (rr3.back e1)⟩
theorem tcb_lift {o : OpL} {ws : WL} {n : Nat} {σ : St} {H : Hp} {Q : VK} (h : lift (pm X T) E (wCall o ws) σ H Q) : tCB (rDs (pm X T) o) (liftL WR (pm X T) E n ws) σ H Q := by
  obtain ⟨H0, M0, M, ρ, XW, Q3, re, xo, q, k⟩ := h
  refine ⟨H0, M0, M, ρ, XW, _, re, xo, q, fun xs vs H1 qs e1 t1 hl hp => ?_⟩
  exact ⟨M, xs, Q3, (re.grow e1 t1).mdom, t1, hp, qs, fun r v H2 q2 e2 t2 rr => k r v H2 q2 (e1.trans e2) t2 (rr.back e1)⟩
theorem ev_callB {id : String} {x : Str} {p : Pos} {es : List Expr} {o : OpL} {ws : WL} {n : Nat} (hc : CallR X (.builtin id) (rDs (pm X T) o)) (hg : Gl X x) (hm : X.mg x = none) (hv : bootBuiltins x = some (.builtin id)) (ha : PA X (e :: es) (liftL WR (pm X T) E n ws))
    (hn : x ≠ "__name__" := by decide) (hdb : (x == ("__debug__" : Str)) = false := by decide) (he : starEach (e :: es) X.env = (false, eval e X.env) :: starEach es X.env := by rfl) (hpl : (backTo pos (starEach es X.env)).any (·.1) = false := by rfl) :
    PE X (.Call (.Name x p) (e :: es) [] pos) (lift (pm X T) E (wCall o ws)) := PEimp (pe_callB hc hg hm hv ha hn hdb he hpl) fun _ _ _ h => tcb_lift h
theorem ev_callTy {ty : String} {x : Str} {p : Pos} {es : List Expr} {o : OpL} {ws : WL} {n : Nat} (hc : CallR X (.type ty) (rDs (pm X T) o)) (hg : Gl X x) (hm : X.mg x = none) (hv : bootBuiltins x = some (.type ty)) (ha : PA X (e :: es) (liftL WR (pm X T) E n ws))
    (hn : x ≠ "__name__" := by decide) (hdb : (x == ("__debug__" : Str)) = false := by decide) (he : starEach (e :: es) X.env = (false, eval e X.env) :: starEach es X.env := by rfl) (hpl : (backTo pos (starEach es X.env)).any (·.1) = false := by rfl) :
    PE X (.Call (.Name x p) (e :: es) [] pos) (lift (pm X T) E (wCall o ws)) := PEimp (pe_callTy hc hg hm hv ha hn hdb he hpl) fun _ _ _ h => tcb_lift h

/-! ### truth -/
def R.bl : R → (Bool → Prop) → Prop
  | .d (.bool b), k => k b
  | _, _ => False
theorem RR.bool {K : PySem.W.Frag} {M : Ad} {Hb H : Hp} {v : V} {r : R} {k : Bool → Prop} (h : RR K M Hb H v r) (q : r.bl k) : ∃ b, v = .bl b ∧ k b := by
  cases r with
  | d x =>
    cases x with
    | bool b => cases h; exact ⟨b, rfl, q⟩
    | _ => exact False.elim q
  | _ => exact False.elim q
def wT (w : W) : WB := fun ρ Q X => w ρ (fun r => r.bl Q) X
def wNot (w : WB) : WB := fun ρ Q X => w ρ (fun b => Q (!b)) X
def wAnd (a b : WB) : WB := fun ρ Q X => a ρ (fun c => if c = true then b ρ Q X else Q false) X
def wOr (a b : WB) : WB := fun ρ Q X => a ρ (fun c => if c = true then Q true else b ρ Q X) X
/-- .. as values -/
def wB (w : WB) : W := fun ρ Q X => w ρ (fun b => Q (.d (.bool b))) X
def wAndV (a b : W) : W := fun ρ Q X => a ρ (fun r => r.bl fun c => if c = true then b ρ Q X else Q (.d (.bool false))) X
def wOrV (a b : W) : W := fun ρ Q X => a ρ (fun r => r.bl fun c => if c = true then Q (.d (.bool true)) else b ρ Q X) X
def wNotV (a : W) : W := fun ρ Q X => a ρ (fun r => r.bl fun c => Q (.d (.bool !c))) X
def wIf (c : WB) (a b : W) : W := fun ρ Q X => c ρ (fun c => if c = true then a ρ Q X else b ρ Q X) X
theorem tB_lift {w : W} {σ : St} {H : Hp} {Q : Bool → Hp → Prop} (h : liftB (pm X T) E (wT w) σ H Q) : tB (lift (pm X T) E w) σ H Q := by
  obtain ⟨H0, M0, M, ρ, XW, Q3, re, xo, q, k⟩ := h
  refine ⟨H0, M0, M, ρ, XW, _, re, xo, q, fun r v H1 qr e1 t1 rr => ?_⟩
  obtain ⟨b, e, qb⟩ := rr.bool qr
  exact ⟨b, e, k b H1 qb e1 t1⟩
/-- an expression (a name, a call, a subscript ..) as a test -/
theorem et_val {w : W} (h : PE X e (lift (pm X T) E w)) (he : ∀ whole, isTrue e X.env whole = (do let v ← whole; standAt e.pos; holding [v] (truthy v)) := by intro _; rfl) : PT X e (liftB (pm X T) E (wT w)) :=
  PTimp (pt_val h he) fun _ _ _ h => tB_lift h
theorem et_cmp {op : CmpOp} {o : Op2} {wa wb : W} (ho : OpR X (compareOp op) (rD (pm X T) o)) (ha : PE X a (lift (pm X T) E wa)) (hb : PE X b (lift (pm X T) E wb)) (hm : behindInMarks op b = false) :
    PT X (.Compare a [op] [b] pos) (liftB (pm X T) E (wT (wOp o wa wb))) := PTimp (pt_cmpR ho ha hb hm) fun σ H Q h => by
  obtain ⟨H0, M0, M, ρ, XW, Q3, re, xo, q, k⟩ := h
  have h' : lift (pm X T) E (wOp o wa wb) σ H (fun x H' => ∃ c, x = .bl c ∧ Q c H') := ⟨H0, M0, M, ρ, XW, _, re, xo, q, fun r v H1 qr e1 t1 rr => by
    obtain ⟨b, e, qb⟩ := rr.bool qr
    exact ⟨b, e, k b H1 qb e1 t1⟩⟩
  exact top_lift h'
theorem et_not {w : WB} (h : PT X a (liftB (pm X T) E w)) : PT X (.UnaryOp .Not a pos) (liftB (pm X T) E (wNot w)) := PTimp (pt_not h) fun σ H Q ⟨H0, M0, M, ρ, XW, Q3, re, xo, q, k⟩ =>
  ⟨H0, M0, M, ρ, XW, _, re, xo, q, fun b H1 qb e1 t1 => k _ H1 qb e1 t1⟩
theorem ew_and1 {w : WB} (h : PT X a (liftB (pm X T) E w)) : PW X (.BoolOp .And [a] pos) (liftB (pm X T) E w) := pw_and1 h
theorem ew_or1 {w : WB} (h : PT X a (liftB (pm X T) E w)) : PW X (.BoolOp .Or [a] pos) (liftB (pm X T) E w) := pw_or1 h
theorem ew_and {wa wb : WB} {rest : List Expr} (ha : PT X a (liftB (pm X T) E wa)) (hb : PW X (.BoolOp .And (b :: rest) pos) (liftB (pm X T) E wb)) : PW X (.BoolOp .And (a :: b :: rest) pos) (liftB (pm X T) E (wAnd wa wb)) :=
  PWimp (pw_and ha hb) fun σ H Q ⟨H0, M0, M, ρ, XW, Q3, re, xo, q, k⟩ => ⟨H0, M0, M, ρ, XW, _, re, xo, q, fun c H1 qc e1 t1 => by
    cases c with
    | true => exact ⟨H0, M0, M, ρ, XW, Q3, re.grow e1 t1, xo.grow e1, qc, fun b H2 qb e2 t2 => k b H2 qb (e1.trans e2) t2⟩
    | false => exact k false H1 qc e1 t1⟩
theorem ew_or {wa wb : WB} {rest : List Expr} (ha : PT X a (liftB (pm X T) E wa)) (hb : PW X (.BoolOp .Or (b :: rest) pos) (liftB (pm X T) E wb)) : PW X (.BoolOp .Or (a :: b :: rest) pos) (liftB (pm X T) E (wOr wa wb)) :=
  PWimp (pw_or ha hb) fun σ H Q ⟨H0, M0, M, ρ, XW, Q3, re, xo, q, k⟩ => ⟨H0, M0, M, ρ, XW, _, re, xo, q, fun c H1 qc e1 t1 => by
    cases c with
    | true => exact k true H1 qc e1 t1
    | false => exact ⟨H0, M0, M, ρ, XW, Q3, re.grow e1 t1, xo.grow e1, qc, fun b H2 qb e2 t2 => k b H2 qb (e1.trans e2) t2⟩⟩
theorem ev_one {op : BoolOp} {w : W} (h : PE X a (lift (pm X T) E w)) : PE X (.BoolOp op [a] pos) (lift (pm X T) E w) := pe_one h
theorem ev_and {wa wb : W} {rest : List Expr} (ha : PE X a (lift (pm X T) E wa)) (hb : PE X (.BoolOp .And (b :: rest) pos) (lift (pm X T) E wb)) : PE X (.BoolOp .And (a :: b :: rest) pos) (lift (pm X T) E (wAndV wa wb)) :=
  PEimp (pe_and ha hb) fun σ H Q ⟨H0, M0, M, ρ, XW, Q3, re, xo, q, k⟩ => ⟨H0, M0, M, ρ, XW, _, re, xo, q, fun r v H1 qr e1 t1 rr => by
    obtain ⟨c, e, qc⟩ := rr.bool qr
    refine ⟨c, e, ?_⟩
    cases c with
    | true => exact ⟨H0, M0, M, ρ, XW, Q3, re.grow e1 t1, xo.grow e1, qc, fun r' v' H2 q2 e2 t2 rr2 => k r' v' H2 q2 (e1.trans e2) t2 (rr2.back e1)⟩
    | false => exact k _ _ H1 qc e1 t1 (.bl false)⟩
theorem ev_or {wa wb : W} {rest : List Expr} (ha : PE X a (lift (pm X T) E wa)) (hb : PE X (.BoolOp .Or (b :: rest) pos) (lift (pm X T) E wb)) : PE X (.BoolOp .Or (a :: b :: rest) pos) (lift (pm X T) E (wOrV wa wb)) :=
  PEimp (pe_or ha hb) fun σ H Q ⟨H0, M0, M, ρ, XW, Q3, re, xo, q, k⟩ => ⟨H0, M0, M, ρ, XW, _, re, xo, q, fun r v H1 qr e1 t1 rr => by
    obtain ⟨c, e, qc⟩ := rr.bool qr
    refine ⟨c, e, ?_⟩
    cases c with
    | true => exact k _ _ H1 qc e1 t1 (.bl true)
    | false => exact ⟨H0, M0, M, ρ, XW, Q3, re.grow e1 t1, xo.grow e1, qc, fun r' v' H2 q2 e2 t2 rr2 => k r' v' H2 q2 (e1.trans e2) t2 (rr2.back e1)⟩⟩
theorem ev_not {w : W} (h : PE X a (lift (pm X T) E w)) : PE X (.UnaryOp .Not a pos) (lift (pm X T) E (wNotV w)) :=
  PEimp (pe_not h) fun σ H Q ⟨H0, M0, M, ρ, XW, Q3, re, xo, q, k⟩ => ⟨H0, M0, M, ρ, XW, _, re, xo, q, fun r v H1 qr e1 t1 rr => by
    obtain ⟨c, e, qc⟩ := rr.bool qr
    exact ⟨c, e, k _ _ H1 qc e1 t1 (.bl _)⟩⟩
theorem ev_if {c : Expr} {wc : WB} {wa wb : W} (hc : PT X c (liftB (pm X T) E wc)) (ha : PE X a (lift (pm X T) E wa)) (hb : PE X b (lift (pm X T) E wb)) : PE X (.IfExp c a b pos) (lift (pm X T) E (wIf wc wa wb)) :=
  PEimp (pe_ifExp hc ha hb) fun σ H Q ⟨H0, M0, M, ρ, XW, Q3, re, xo, q, k⟩ => ⟨H0, M0, M, ρ, XW, _, re, xo, q, fun c H1 qc e1 t1 => by
    have gr : ∀ {w : W}, w ρ Q3 XW → lift (pm X T) E w σ H1 Q := fun qw => ⟨H0, M0, M, ρ, XW, Q3, re.grow e1 t1, xo.grow e1, qw, fun r' v' H2 q2 e2 t2 rr2 => k r' v' H2 q2 (e1.trans e2) t2 (rr2.back e1)⟩
    cases c with
    | true => exact gr qc
    | false => exact gr qc⟩
end
end T3
set_option linter.all false
set_option maxRecDepth 100000
set_option maxHeartbeats 2000000
set_option Elab.async false
/-! T3: what the operators and the built-in functions give, tree by tree. -/
namespace T3
open L2 LamX PySem PyProof.Rows PySem.Spec

/-! ### looking into a value -/
section
variable {K : PySem.W.Frag} {M : Ad} {H : Hp} {v : V}
theorem WR.non (h : WR K M H v .none) : v = .non := by
  rcases h with h | ⟨p, vs, xs, _, e, _⟩
  · cases h; rfl
  · cases e
theorem WR.bool {b : Bool} (h : WR K M H v (.bool b)) : v = .bl b := by
  rcases h with h | ⟨p, vs, xs, _, e, _⟩
  · cases h; rfl
  · cases e
theorem WR.int {i : Int} (h : WR K M H v (.int i)) : v = .int i := by
  rcases h with h | ⟨p, vs, xs, _, e, _⟩
  · cases h; rfl
  · cases e
theorem WR.str {x : Str} (h : WR K M H v (.str x)) : v = .str x := by
  rcases h with h | ⟨p, vs, xs, _, e, _⟩
  · cases h; rfl
  · cases e
theorem WR.tup {xs : List PyData} (h : WR K M H v (.tuple xs)) : ∃ a vs, v = .ref a ∧ TupM K M H a vs ∧ DMs K M H vs xs := by
  rcases h with h | ⟨p, vs, xs, _, e, _⟩
  · cases h with
    | tup h r => exact ⟨_, _, rfl, h, r⟩
  · cases e
theorem WR.lst {xs : List PyData} (h : WR K M H v (.list xs)) : ∃ a vs, v = .ref a ∧ H a = some (.lst vs) ∧ DMs K M H vs xs := by
  rcases h with h | ⟨p, vs, ys, e1, e, e2, e3⟩
  · cases h with
    | lst h r => exact ⟨_, _, rfl, h.2, r⟩
  · cases e
    exact ⟨p, vs, e1, e2, e3⟩
theorem WR.dct {kvs : List (PyData × PyData)} (h : WR K M H v (.dict kvs)) : kvs = [] ∧ ∃ a, v = .ref a ∧ H a = some (.dK []) := by
  rcases h with h | ⟨p, vs, ys, e1, e, e2, e3⟩
  · cases h with
    | dct0 m h => exact ⟨rfl, _, rfl, h⟩
  · cases e
mutual
theorem DM.dp : ∀ {d : PyData} {v : V}, d.canLay0 = true → DM K M H v d → Dp K H v d
  | _, _, _, .non => .non
  | _, _, _, .bl b => .bl b
  | _, _, _, .int i => .int i
  | _, _, _, .str x => .str x
  | _, _, c, .lst h r => .lst h.sq (DMs.dp (by simpa only [PyData.canLay0] using c) r)
  | _, _, c, .tup h r => .tup h.sq (DMs.dp (by simpa only [PyData.canLay0] using c) r)
  | _, _, c, .dct0 _ _ => by simp [PyData.canLay0] at c
theorem DMs.dp : ∀ {ds : List PyData} {vs : List V}, PyData.canLayAll0 ds = true → DMs K M H vs ds → DpAll K H vs ds
  | _, _, _, .nil => .nil
  | _, _, c, .cons h r => by
    rw [PyData.canLayAll0, Bool.and_eq_true] at c
    exact .cons (DM.dp c.1 h) (DMs.dp c.2 r)
end
theorem WR.dp {d : PyData} (c : d.canLay0 = true) (h : WR K M H v d) : Dp K H v d := by
  rcases h with h | ⟨p, vs, ys, rfl, rfl, e2, e3⟩
  · exact h.dp c
  · exact .lst (SqL.of e2) (DMs.dp (by simpa only [PyData.canLay0] using c) e3)
end

/-! ### shaped data -/
def Sh (n : Nat) (d : PyData) : Prop := d.canLay0 = true ∧ d.depth ≤ n
theorem Sh.shaped {n : Nat} {d : PyData} (h : Sh n d) (hn : n ≤ 64) : SeqAt.shaped d = true := by
  unfold SeqAt.shaped
  rw [h.1, Bool.true_and]
  exact decide_eq_true (Nat.le_trans h.2 hn)
theorem Sh.mono {m n : Nat} {d : PyData} (h : Sh m d) (hn : m ≤ n) : Sh n d := ⟨h.1, Nat.le_trans h.2 hn⟩
theorem Sh.non {n : Nat} : Sh n .none := ⟨by simp [PyData.canLay0], by simp [PyData.depth]⟩
theorem Sh.bool {n : Nat} (b : Bool) : Sh n (.bool b) := ⟨by simp [PyData.canLay0], by simp [PyData.depth]⟩
theorem Sh.int {n : Nat} (i : Int) : Sh n (.int i) := ⟨by simp [PyData.canLay0], by simp [PyData.depth]⟩
theorem Sh.str {n : Nat} {x : Str} (h : PyData.strOk x = true) : Sh n (.str x) := ⟨by simpa [PyData.canLay0] using h, by simp [PyData.depth]⟩
theorem shAll {n : Nat} : ∀ {ds : List PyData}, (∀ d ∈ ds, Sh n d) → PyData.canLayAll0 ds = true ∧ PyData.depthAll ds ≤ n
  | [], _ => ⟨by simp [PyData.canLayAll0], by simp [PyData.depthAll]⟩
  | d :: ds, h => by
    have h1 := h d List.mem_cons_self
    have h2 := shAll (ds := ds) fun e he => h e (List.mem_cons_of_mem _ he)
    refine ⟨?_, ?_⟩
    · rw [PyData.canLayAll0, h1.1, h2.1]; rfl
    · simp only [PyData.depthAll]
      have := h1.2
      have := h2.2
      omega
theorem Sh.tup {n : Nat} {ds : List PyData} (h : ∀ d ∈ ds, Sh n d) : Sh (n + 1) (.tuple ds) := by
  have q := shAll h
  exact ⟨by simpa only [PyData.canLay0] using q.1, by simp only [PyData.depth]; have := q.2; omega⟩
theorem Sh.lst {n : Nat} {ds : List PyData} (h : ∀ d ∈ ds, Sh n d) : Sh (n + 1) (.list ds) := by
  have q := shAll h
  exact ⟨by simpa only [PyData.canLay0] using q.1, by simp only [PyData.depth]; have := q.2; omega⟩

/-! ### operators -/
def addD : Op2 := fun x y k => match x, y with
  | .int i, .int j => k (.d (.int (i + j)))
  | .tuple a, .tuple b => a.length + b.length ≤ sizeLine ∧ k (.d (.tuple (a ++ b)))
  | .list a, .list b => a.length + b.length ≤ sizeLine ∧ k (.fr (a ++ b))
  | .str a, .str b => a.length + b.length ≤ sizeLine ∧ k (.d (.str (a ++ b)))
  | _, _ => False
def subD : Op2 := fun x y k => match x, y with
  | .int i, .int j => k (.d (.int (i - j)))
  | _, _ => False
def mulD : Op2 := fun x y k => match x, y with
  | .int i, .int j => (CMul i j ∨ CMulW i j) ∧ k (.d (.int (i * j)))
  | .list a, .int j => (-(2 ^ 63) ≤ j ∧ j < 2 ^ 63 ∧ a.length * j.toNat ≤ sizeLine) ∧ k (.fr (List.replicate j.toNat a).flatten)
  | .tuple a, .int j => (a ≠ [] ∧ 2 ≤ j ∧ j ≤ 1000 ∧ a.length ≤ 1000) ∧ k (.d (.tuple (List.replicate j.toNat a).flatten))
  | _, _ => False
def fdivD : Op2 := fun x y k => match x, y with
  | .int i, .int j => (CDiv i j ∨ CDivW i j) ∧ k (.d (.int (i / j)))
  | _, _ => False
def modD : Op2 := fun x y k => match x, y with
  | .int i, .int j => 0 < j ∧ k (.d (.int (i % j)))
  | _, _ => False
def powD : Op2 := fun x y k => match x, y with
  | .int i, .int j => CPow i j ∧ k (.d (.int (i ^ j.toNat)))
  | _, _ => False
def ltD : Op2 := fun x y k => match x, y with
  | .int i, .int j => k (.d (.bool (decide (i < j))))
  | _, _ => False
def leD : Op2 := fun x y k => match x, y with
  | .int i, .int j => k (.d (.bool (decide (i ≤ j))))
  | _, _ => False
def gtD : Op2 := fun x y k => match x, y with
  | .int i, .int j => k (.d (.bool (decide (j < i))))
  | _, _ => False
def geD : Op2 := fun x y k => match x, y with
  | .int i, .int j => k (.d (.bool (decide (j ≤ i))))
  | _, _ => False
def eqD : Op2 := fun x y k => SeqAt.shaped x = true ∧ SeqAt.shaped y = true ∧ k (.d (.bool (PyData.eqv x y)))
def neD : Op2 := fun x y k => SeqAt.shaped x = true ∧ SeqAt.shaped y = true ∧ k (.d (.bool (!PyData.eqv x y)))
def isND : Op2 := fun x y k => match y with
  | .none => k (.d (.bool (match x with | .none => true | _ => false)))
  | _ => False
def isnotND : Op2 := fun x y k => match y with
  | .none => k (.d (.bool (match x with | .none => false | _ => true)))
  | _ => False
/-- in: within the items of a list or tuple -/
def inD : Op2 := fun x y k => match y with
  | .list ys => SeqAt.shaped x = true ∧ SeqAt.shaped y = true ∧ k (.d (.bool (ys.any fun z => PyData.eqv z x)))
  | _ => False
def notInD : Op2 := fun x y k => match y with
  | .list ys => SeqAt.shaped x = true ∧ SeqAt.shaped y = true ∧ k (.d (.bool (!ys.any fun z => PyData.eqv z x)))
  | _ => False
def ixD : Op2 := fun x y k => match x, y with
  | .list xs, .int i => ∃ v, atI xs i = some v ∧ k (.d v)
  | .tuple xs, .int i => ∃ v, atI xs i = some v ∧ k (.d v)
  | _, _ => False

theorem OpRimp {X : Cx} {f : Value → Value → Sem Value} {r r' : R2} (h : OpR X f r) (i : ∀ x y H Q, r' x y H Q → r x y H Q) : OpR X f r' := fun pins s σ H x y v u Q I rx ry q => h pins s σ H x y v u Q I rx ry (i _ _ _ _ q)
theorem IxRimp {X : Cx} {r r' : R2} (h : IxR X r) (i : ∀ x y H Q, r' x y H Q → r x y H Q) : IxR X r' := fun a b pins s σ H x y v u Q I rx ry q => h a b pins s σ H x y v u Q I rx ry (i _ _ _ _ q)
theorem CallRimp {X : Cx} {f : Value} {r r' : List V → Hp → VK → Prop} (h : CallR X f r) (i : ∀ vs H Q, r' vs H Q → r vs H Q) : CallR X f r' := fun pins s σ H xs us Q I rx q => h pins s σ H xs us Q I rx (i _ _ _ q)
section
variable {X : Cx} {T : List (Addr × Str)}
theorem op_addD : OpR X (binaryOp .Add) (rD (pm X T) addD) := OpRimp (op_add.or (op_catA.or (op_cat.or op_add_str))) fun x y H Q h => by
  obtain ⟨M, d, e, Q3, hm, ht, hd, he, q, k⟩ := h
  unfold addD at q
  split at q
  · exact .inl ⟨_, _, hd.int, he.int, k _ _ _ q (ExtN.refl H) ht (.int _)⟩
  · obtain ⟨a, vs, e1, l1, r1⟩ := hd.tup
    obtain ⟨b, ws, e2, l2, r2⟩ := he.tup
    refine .inr (.inl ⟨a, b, vs, ws, e1, e2, l1.sq, l2.sq, by rw [r1.length, r2.length]; exact q.1, fun z => ?_, fun _ z => ?_, fun _ _ p np => ?_⟩)
    · subst z
      cases r1
      exact k _ _ _ q.2 (ExtN.refl H) ht (.tup l2 r2)
    · subst z
      cases r2
      exact k _ _ _ q.2 (ExtN.refl H) ht (.tup l1 (by rw [List.append_nil]; exact r1))
    · exact k _ _ _ q.2 (ext_new np) (tabs_new ht np) (tup_new hm (ExtN.refl H) np (r1.append r2))
  · obtain ⟨a, vs, e1, l1, r1⟩ := hd.lst
    obtain ⟨b, ws, e2, l2, r2⟩ := he.lst
    exact .inr (.inr (.inl ⟨a, b, vs, ws, e1, e2, l1, l2, by rw [r1.length, r2.length]; exact q.1, fun p np => k _ _ _ q.2 (ext_new np) (tabs_new ht np) (lst_new (ExtN.refl H) np (r1.append r2))⟩))
  · exact .inr (.inr (.inr ⟨_, _, hd.str, he.str, q.1, k _ _ _ q.2 (ExtN.refl H) ht (.str _)⟩))
  · exact q.elim
theorem op_subD : OpR X (binaryOp .Sub) (rD (pm X T) subD) := OpRimp op_sub fun x y H Q h => by
  obtain ⟨M, d, e, Q3, hm, ht, hd, he, q, k⟩ := h
  unfold subD at q
  split at q
  · exact ⟨_, _, hd.int, he.int, k _ _ _ q (ExtN.refl H) ht (.int _)⟩
  · exact q.elim
theorem DMs.rep {K : PySem.W.Frag} {M : Ad} {H : Hp} {vs : List V} {xs : List PyData} (h : DMs K M H vs xs) : ∀ n : Nat, DMs K M H (List.replicate n vs).flatten (List.replicate n xs).flatten
  | 0 => .nil
  | n + 1 => by
    rw [List.replicate_succ, List.replicate_succ, List.flatten_cons, List.flatten_cons]
    exact h.append (DMs.rep h n)
theorem op_mulD : OpR X (binaryOp .Mult) (rD (pm X T) mulD) := OpRimp (op_mul.or (op_mulW.or (op_rep.or op_repT))) fun x y H Q h => by
  obtain ⟨M, d, e, Q3, hm, ht, hd, he, q, k⟩ := h
  unfold mulD at q
  split at q
  · have w := k _ _ _ q.2 (ExtN.refl H) ht (.int _)
    rcases q.1 with c | c
    · exact .inl ⟨_, _, hd.int, he.int, c, w⟩
    · exact .inr (.inl ⟨_, _, hd.int, he.int, c, w⟩)
  · obtain ⟨a, vs, e1, l1, r1⟩ := hd.lst
    obtain ⟨⟨c1, c2, c3⟩, q⟩ := q
    refine .inr (.inr (.inl ⟨a, _, vs, e1, he.int, l1, c1, c2, by rw [r1.length]; exact c3, fun p np => ?_⟩))
    exact k _ _ _ q (ext_new np) (tabs_new ht np) (lst_new (ExtN.refl H) np (r1.rep _))
  · obtain ⟨a, vs, e1, l1, r1⟩ := hd.tup
    obtain ⟨⟨c1, c2, c3, c4⟩, q⟩ := q
    refine .inr (.inr (.inr ⟨a, _, vs, e1, he.int, l1.sq, fun z => ?_, c2, c3, by rw [r1.length]; exact c4, fun p np => ?_⟩))
    · subst z
      cases r1
      exact c1 rfl
    · exact k _ _ _ q (ext_new np) (tabs_new ht np) (tup_new hm (ExtN.refl H) np (r1.rep _))
  · exact q.elim
theorem op_fdivD : OpR X (binaryOp .FloorDiv) (rD (pm X T) fdivD) := OpRimp (op_fdiv.or op_fdivW) fun x y H Q h => by
  obtain ⟨M, d, e, Q3, hm, ht, hd, he, q, k⟩ := h
  unfold fdivD at q
  split at q
  · have w := k _ _ _ q.2 (ExtN.refl H) ht (.int _)
    rcases q.1 with c | c
    · exact .inl ⟨_, _, hd.int, he.int, c, w⟩
    · exact .inr ⟨_, _, hd.int, he.int, c, w⟩
  · exact q.elim
theorem op_modD : OpR X (binaryOp .Mod) (rD (pm X T) modD) := OpRimp op_mod fun x y H Q h => by
  obtain ⟨M, d, e, Q3, hm, ht, hd, he, q, k⟩ := h
  unfold modD at q
  split at q
  · exact ⟨_, _, hd.int, he.int, q.1, k _ _ _ q.2 (ExtN.refl H) ht (.int _)⟩
  · exact q.elim
theorem op_powD : OpR X (binaryOp .Pow) (rD (pm X T) powD) := OpRimp op_pow fun x y H Q h => by
  obtain ⟨M, d, e, Q3, hm, ht, hd, he, q, k⟩ := h
  unfold powD at q
  split at q
  · exact ⟨_, _, hd.int, he.int, q.1, k _ _ _ q.2 (ExtN.refl H) ht (.int _)⟩
  · exact q.elim
theorem op_ltD : OpR X (compareOp .Lt) (rD (pm X T) ltD) := OpRimp op_lt fun x y H Q h => by
  obtain ⟨M, d, e, Q3, hm, ht, hd, he, q, k⟩ := h
  unfold ltD at q
  split at q
  · exact ⟨_, _, hd.int, he.int, k _ _ _ q (ExtN.refl H) ht (.bl _)⟩
  · exact q.elim
theorem op_leD : OpR X (compareOp .LtE) (rD (pm X T) leD) := OpRimp op_le fun x y H Q h => by
  obtain ⟨M, d, e, Q3, hm, ht, hd, he, q, k⟩ := h
  unfold leD at q
  split at q
  · exact ⟨_, _, hd.int, he.int, k _ _ _ q (ExtN.refl H) ht (.bl _)⟩
  · exact q.elim
theorem op_gtD : OpR X (compareOp .Gt) (rD (pm X T) gtD) := OpRimp op_gt fun x y H Q h => by
  obtain ⟨M, d, e, Q3, hm, ht, hd, he, q, k⟩ := h
  unfold gtD at q
  split at q
  · exact ⟨_, _, hd.int, he.int, k _ _ _ q (ExtN.refl H) ht (.bl _)⟩
  · exact q.elim
theorem op_geD : OpR X (compareOp .GtE) (rD (pm X T) geD) := OpRimp op_ge fun x y H Q h => by
  obtain ⟨M, d, e, Q3, hm, ht, hd, he, q, k⟩ := h
  unfold geD at q
  split at q
  · exact ⟨_, _, hd.int, he.int, k _ _ _ q (ExtN.refl H) ht (.bl _)⟩
  · exact q.elim
theorem lay_of_shaped {d : PyData} (h : SeqAt.shaped d = true) : d.canLay0 = true := by
  unfold SeqAt.shaped at h
  rw [Bool.and_eq_true] at h
  exact h.1
theorem op_eqT (hu : X.A.units + 64 < cLine) : OpR X (compareOp .Eq) (rD (pm X T) eqD) := OpRimp (op_eqD hu) fun x y H Q h => by
  obtain ⟨M, d, e, Q3, hm, ht, hd, he, ⟨s1, s2, q⟩, k⟩ := h
  exact ⟨d, e, hd.dp (lay_of_shaped s1), he.dp (lay_of_shaped s2), s1, s2, k _ _ _ q (ExtN.refl H) ht (.bl _)⟩
theorem op_neT (hu : X.A.units + 64 < cLine) : OpR X (compareOp .NotEq) (rD (pm X T) neD) := OpRimp (op_neD hu) fun x y H Q h => by
  obtain ⟨M, d, e, Q3, hm, ht, hd, he, ⟨s1, s2, q⟩, k⟩ := h
  exact ⟨d, e, hd.dp (lay_of_shaped s1), he.dp (lay_of_shaped s2), s1, s2, k _ _ _ q (ExtN.refl H) ht (.bl _)⟩
theorem op_isND : OpR X (compareOp .Is) (rD (pm X T) isND) := OpRimp op_isN fun x y H Q h => by
  obtain ⟨M, d, e, Q3, hm, ht, hd, he, q, k⟩ := h
  unfold isND at q
  split at q
  · refine ⟨he.non, ?_⟩
    cases d with
    | none =>
      cases hd.non
      exact k _ _ _ q (ExtN.refl H) ht (.bl _)
    | bool b => cases hd.bool; exact k _ _ _ q (ExtN.refl H) ht (.bl _)
    | int b => cases hd.int; exact k _ _ _ q (ExtN.refl H) ht (.bl _)
    | str b => cases hd.str; exact k _ _ _ q (ExtN.refl H) ht (.bl _)
    | list b => obtain ⟨a, vs, e1, _⟩ := hd.lst; cases e1; exact k _ _ _ q (ExtN.refl H) ht (.bl _)
    | tuple b => obtain ⟨a, vs, e1, _⟩ := hd.tup; cases e1; exact k _ _ _ q (ExtN.refl H) ht (.bl _)
    | dict b => obtain ⟨_, a, e1, _⟩ := hd.dct; cases e1; exact k _ _ _ q (ExtN.refl H) ht (.bl _)
  · exact q.elim
theorem op_isnotND : OpR X (compareOp .IsNot) (rD (pm X T) isnotND) := OpRimp op_notN fun x y H Q h => by
  obtain ⟨M, d, e, Q3, hm, ht, hd, he, q, k⟩ := h
  unfold isnotND at q
  split at q
  · refine ⟨he.non, ?_⟩
    cases d with
    | none =>
      cases hd.non
      exact k _ _ _ q (ExtN.refl H) ht (.bl _)
    | bool b => cases hd.bool; exact k _ _ _ q (ExtN.refl H) ht (.bl _)
    | int b => cases hd.int; exact k _ _ _ q (ExtN.refl H) ht (.bl _)
    | str b => cases hd.str; exact k _ _ _ q (ExtN.refl H) ht (.bl _)
    | list b => obtain ⟨a, vs, e1, _⟩ := hd.lst; cases e1; exact k _ _ _ q (ExtN.refl H) ht (.bl _)
    | tuple b => obtain ⟨a, vs, e1, _⟩ := hd.tup; cases e1; exact k _ _ _ q (ExtN.refl H) ht (.bl _)
    | dict b => obtain ⟨_, a, e1, _⟩ := hd.dct; cases e1; exact k _ _ _ q (ExtN.refl H) ht (.bl _)
  · exact q.elim
theorem op_inT (hu : X.A.units + 65 < cLine) : OpR X (compareOp .In) (rD (pm X T) inD) := OpRimp (op_inD hu) fun x y H Q h => by
  obtain ⟨M, d, e, Q3, hm, ht, hd, he, q, k⟩ := h
  unfold inD at q
  split at q
  · obtain ⟨s1, s2, q⟩ := q
    exact ⟨d, _, hd.dp (lay_of_shaped s1), he.dp (lay_of_shaped s2), s1, s2, k _ _ _ q (ExtN.refl H) ht (.bl _)⟩
  · exact q.elim
theorem op_notInT (hu : X.A.units + 65 < cLine) : OpR X (compareOp .NotIn) (rD (pm X T) notInD) := OpRimp (op_notInD hu) fun x y H Q h => by
  obtain ⟨M, d, e, Q3, hm, ht, hd, he, q, k⟩ := h
  unfold notInD at q
  split at q
  · obtain ⟨s1, s2, q⟩ := q
    exact ⟨d, _, hd.dp (lay_of_shaped s1), he.dp (lay_of_shaped s2), s1, s2, k _ _ _ q (ExtN.refl H) ht (.bl _)⟩
  · exact q.elim
theorem DMs.atI {K : PySem.W.Frag} {M : Ad} {H : Hp} {vs : List V} {xs : List PyData} {i : Int} {x : PyData} (h : DMs K M H vs xs) (e : L2.atI xs i = some x) : ∃ v, L2.atI vs i = some v ∧ DM K M H v x := by
  unfold L2.atI at e ⊢
  rw [h.length]
  cases q : ixN xs.length i with
  | none => rw [q] at e; cases e
  | some j =>
    rw [q] at e
    exact h.at e
theorem ix_D : IxR X (rD (pm X T) ixD) := IxRimp (ix_list.or ix_tup) fun x y H Q h => by
  obtain ⟨M, d, e, Q3, hm, ht, hd, he, q, k⟩ := h
  unfold ixD at q
  split at q
  · obtain ⟨a, vs, e1, l1, r1⟩ := hd.lst
    obtain ⟨v, ev, q⟩ := q
    obtain ⟨u, h1, h2⟩ := r1.atI ev
    exact .inl ⟨a, vs, _, u, e1, he.int, SqL.of l1, h1, k _ _ _ q (ExtN.refl H) ht h2⟩
  · obtain ⟨a, vs, e1, l1, r1⟩ := hd.tup
    obtain ⟨v, ev, q⟩ := q
    obtain ⟨u, h1, h2⟩ := r1.atI ev
    exact .inr ⟨a, vs, _, u, e1, he.int, l1.sq, h1, k _ _ _ q (ExtN.refl H) ht h2⟩
  · exact q.elim
end
end T3
set_option linter.all false
set_option maxRecDepth 100000
set_option maxHeartbeats 2000000
set_option Elab.async false
/-! T4: built-in functions, isinstance, slices, chains, tree by tree. -/
namespace T3
open L2 LamX PySem PyProof.Rows PySem.Spec

/-! ### built-in functions -/
def lenD : OpL := fun xs k => match xs with
  | [.list a] => k (.d (.int a.length))
  | [.tuple a] => k (.d (.int a.length))
  | [.str x] => x.length ≤ sizeLine ∧ k (.d (.int x.length))
  | _ => False
def absD : OpL := fun xs k => match xs with
  | [.int i] => k (.d (.int (if i < 0 then -i else i)))
  | _ => False
def intD : OpL := fun xs k => match xs with
  | [.int i] => k (.d (.int i))
  | [.bool b] => k (.d (.int (if b then 1 else 0)))
  | _ => False
def min2D : OpL := fun xs k => match xs with
  | [.int i, .int j] => k (.d (.int (if j < i then j else i)))
  | _ => False
def max2D : OpL := fun xs k => match xs with
  | [.int i, .int j] => k (.d (.int (if j > i then j else i)))
  | _ => False
def sumD : OpL := fun xs k => match xs with
  | [.list a] => ∃ ns : List Int, a = ns.map PyData.int ∧ k (.d (.int ns.sum))
  | _ => False
def minD : OpL := fun xs k => match xs with
  | [.list a] => ∃ ns : List Int, a = ns.map PyData.int ∧ 0 < ns.length ∧ ∀ m, m ∈ ns → (∀ y, y ∈ ns → m ≤ y) → k (.d (.int m))
  | _ => False
def maxD : OpL := fun xs k => match xs with
  | [.list a] => ∃ ns : List Int, a = ns.map PyData.int ∧ 0 < ns.length ∧ ∀ m, m ∈ ns → (∀ y, y ∈ ns → y ≤ m) → k (.d (.int m))
  | _ => False
def allD : OpL := fun xs k => match xs with
  | [.list a] => ∃ bs : List Bool, a = bs.map PyData.bool ∧ k (.d (.bool (bs.all id)))
  | _ => False
def anyD : OpL := fun xs k => match xs with
  | [.list a] => ∃ bs : List Bool, a = bs.map PyData.bool ∧ k (.d (.bool (bs.any id)))
  | _ => False
def listD : OpL := fun xs k => match xs with
  | [.list a] => k (.fr a)
  | [.tuple a] => k (.fr a)
  | _ => False
def tupleD : OpL := fun xs k => match xs with
  | [.list a] => k (.d (.tuple a))
  | [.tuple a] => k (.d (.tuple a))
  | _ => False
section
variable {K : PySem.W.Frag} {M : Ad} {H : Hp}
theorem one_of {vs : List V} {x : PyData} (h : Paired (WR K M H) vs [x]) : ∃ v, vs = [v] ∧ WR K M H v x := by
  cases h with
  | cons h r => cases r; exact ⟨_, rfl, h⟩
theorem two_of {vs : List V} {x y : PyData} (h : Paired (WR K M H) vs [x, y]) : ∃ v w, vs = [v, w] ∧ WR K M H v x ∧ WR K M H w y := by
  cases h with
  | cons h r => cases r with
    | cons g r => cases r; exact ⟨_, _, rfl, h, g⟩
theorem DMs.ints : ∀ {ns : List Int} {vs : List V}, DMs K M H vs (ns.map PyData.int) → vs = ns.map V.int
  | [], _, .nil => rfl
  | n :: ns, _, .cons h r => by cases h; rw [DMs.ints r]; rfl
theorem DMs.bools : ∀ {bs : List Bool} {vs : List V}, DMs K M H vs (bs.map PyData.bool) → vs = bs.map V.bl
  | [], _, .nil => rfl
  | n :: ns, _, .cons h r => by cases h; rw [DMs.bools r]; rfl
end
section
variable {X : Cx} {T : List (Addr × Str)}
theorem cr_len : CallR X (.builtin "len") (rDs (pm X T) lenD) := CallRimp (call_len_seq.or call_len_str) fun vs H Q h => by
  obtain ⟨M, ds, Q3, hm, ht, hp, q, k⟩ := h
  unfold lenD at q
  split at q
  · obtain ⟨v, rfl, h⟩ := one_of hp
    obtain ⟨a, ws, rfl, l, r⟩ := h.lst
    refine .inl ⟨a, ws, rfl, .inl (SqL.of l), ?_⟩
    rw [r.length]
    exact k _ _ _ q (ExtN.refl H) ht (.int _)
  · obtain ⟨v, rfl, h⟩ := one_of hp
    obtain ⟨a, ws, rfl, l, r⟩ := h.tup
    refine .inl ⟨a, ws, rfl, .inr l.sq, ?_⟩
    rw [r.length]
    exact k _ _ _ q (ExtN.refl H) ht (.int _)
  · obtain ⟨v, rfl, h⟩ := one_of hp
    cases h.str
    exact .inr ⟨_, rfl, q.1, k _ _ _ q.2 (ExtN.refl H) ht (.int _)⟩
  · exact q.elim
theorem cr_abs : CallR X (.builtin "abs") (rDs (pm X T) absD) := CallRimp call_abs fun vs H Q h => by
  obtain ⟨M, ds, Q3, hm, ht, hp, q, k⟩ := h
  unfold absD at q
  split at q
  · obtain ⟨v, rfl, h⟩ := one_of hp
    cases h.int
    exact ⟨_, rfl, k _ _ _ q (ExtN.refl H) ht (.int _)⟩
  · exact q.elim
theorem cr_int : CallR X (.type "int") (rDs (pm X T) intD) := CallRimp call_int1 fun vs H Q h => by
  obtain ⟨M, ds, Q3, hm, ht, hp, q, k⟩ := h
  unfold intD at q
  split at q
  · obtain ⟨v, rfl, h⟩ := one_of hp
    cases h.int
    exact .inl ⟨_, rfl, k _ _ _ q (ExtN.refl H) ht (.int _)⟩
  · obtain ⟨v, rfl, h⟩ := one_of hp
    cases h.bool
    exact .inr ⟨_, rfl, k _ _ _ q (ExtN.refl H) ht (.int _)⟩
  · exact q.elim
theorem cr_min2 (hc : X.calm = true) : CallR X (.builtin "min") (rDs (pm X T) min2D) := CallRimp (call_min2 hc) fun vs H Q h => by
  obtain ⟨M, ds, Q3, hm, ht, hp, q, k⟩ := h
  unfold min2D at q
  split at q
  · obtain ⟨v, w, rfl, h, g⟩ := two_of hp
    cases h.int
    cases g.int
    exact ⟨_, _, rfl, k _ _ _ q (ExtN.refl H) ht (.int _)⟩
  · exact q.elim
theorem cr_max2 (hc : X.calm = true) : CallR X (.builtin "max") (rDs (pm X T) max2D) := CallRimp (call_max2 hc) fun vs H Q h => by
  obtain ⟨M, ds, Q3, hm, ht, hp, q, k⟩ := h
  unfold max2D at q
  split at q
  · obtain ⟨v, w, rfl, h, g⟩ := two_of hp
    cases h.int
    cases g.int
    exact ⟨_, _, rfl, k _ _ _ q (ExtN.refl H) ht (.int _)⟩
  · exact q.elim
theorem cr_sumD (hc : X.calm = true) : CallR X (.builtin "sum") (rDs (pm X T) sumD) := CallRimp (cr_sum hc) fun vs H Q h => by
  obtain ⟨M, ds, Q3, hm, ht, hp, q, k⟩ := h
  unfold sumD at q
  split at q
  · obtain ⟨v, rfl, h⟩ := one_of hp
    obtain ⟨a, ws, rfl, l, r⟩ := h.lst
    obtain ⟨ns, rfl, q⟩ := q
    cases r.ints
    exact ⟨a, ns, rfl, SqL.of l, k _ _ _ q (ExtN.refl H) ht (.int _)⟩
  · exact q.elim
theorem cr_minD (hc : X.calm = true) : CallR X (.builtin "min") (rDs (pm X T) minD) := CallRimp (cr_min hc) fun vs H Q h => by
  obtain ⟨M, ds, Q3, hm, ht, hp, q, k⟩ := h
  unfold minD at q
  split at q
  · obtain ⟨v, rfl, h⟩ := one_of hp
    obtain ⟨a, ws, rfl, l, r⟩ := h.lst
    obtain ⟨ns, rfl, hn, q⟩ := q
    cases r.ints
    exact ⟨a, ns, rfl, SqL.of l, hn, fun m h1 h2 => k _ _ _ (q m h1 h2) (ExtN.refl H) ht (.int _)⟩
  · exact q.elim
theorem cr_maxD (hc : X.calm = true) : CallR X (.builtin "max") (rDs (pm X T) maxD) := CallRimp (cr_max hc) fun vs H Q h => by
  obtain ⟨M, ds, Q3, hm, ht, hp, q, k⟩ := h
  unfold maxD at q
  split at q
  · obtain ⟨v, rfl, h⟩ := one_of hp
    obtain ⟨a, ws, rfl, l, r⟩ := h.lst
    obtain ⟨ns, rfl, hn, q⟩ := q
    cases r.ints
    exact ⟨a, ns, rfl, SqL.of l, hn, fun m h1 h2 => k _ _ _ (q m h1 h2) (ExtN.refl H) ht (.int _)⟩
  · exact q.elim
theorem cr_allD (hc : X.calm = true) : CallR X (.builtin "all") (rDs (pm X T) allD) := CallRimp (cr_all hc) fun vs H Q h => by
  obtain ⟨M, ds, Q3, hm, ht, hp, q, k⟩ := h
  unfold allD at q
  split at q
  · obtain ⟨v, rfl, h⟩ := one_of hp
    obtain ⟨a, ws, rfl, l, r⟩ := h.lst
    obtain ⟨ns, rfl, q⟩ := q
    cases r.bools
    exact ⟨a, ns, rfl, SqL.of l, k _ _ _ q (ExtN.refl H) ht (.bl _)⟩
  · exact q.elim
theorem cr_anyD (hc : X.calm = true) : CallR X (.builtin "any") (rDs (pm X T) anyD) := CallRimp (cr_any hc) fun vs H Q h => by
  obtain ⟨M, ds, Q3, hm, ht, hp, q, k⟩ := h
  unfold anyD at q
  split at q
  · obtain ⟨v, rfl, h⟩ := one_of hp
    obtain ⟨a, ws, rfl, l, r⟩ := h.lst
    obtain ⟨ns, rfl, q⟩ := q
    cases r.bools
    exact ⟨a, ns, rfl, SqL.of l, k _ _ _ q (ExtN.refl H) ht (.bl _)⟩
  · exact q.elim
theorem cr_list : CallR X (.type "list") (rDs (pm X T) listD) := CallRimp call_list_of fun vs H Q h => by
  obtain ⟨M, ds, Q3, hm, ht, hp, q, k⟩ := h
  unfold listD at q
  split at q
  · obtain ⟨v, rfl, h⟩ := one_of hp
    obtain ⟨a, ws, rfl, l, r⟩ := h.lst
    exact ⟨a, ws, rfl, .inl (SqL.of l), fun p np => k _ _ _ q (ext_new np) (tabs_new ht np) (lst_new (ExtN.refl H) np r)⟩
  · obtain ⟨v, rfl, h⟩ := one_of hp
    obtain ⟨a, ws, rfl, l, r⟩ := h.tup
    exact ⟨a, ws, rfl, .inr l.sq, fun p np => k _ _ _ q (ext_new np) (tabs_new ht np) (lst_new (ExtN.refl H) np r)⟩
  · exact q.elim
theorem cr_tuple : CallR X (.type "tuple") (rDs (pm X T) tupleD) := CallRimp call_tuple_of fun vs H Q h => by
  obtain ⟨M, ds, Q3, hm, ht, hp, q, k⟩ := h
  unfold tupleD at q
  split at q
  · obtain ⟨v, rfl, h⟩ := one_of hp
    obtain ⟨a, ws, rfl, l, r⟩ := h.lst
    exact ⟨a, ws, rfl, .inl ⟨SqL.of l, fun p np => k _ _ _ q (ext_new np) (tabs_new ht np) (tup_new hm (ExtN.refl H) np r)⟩⟩
  · obtain ⟨v, rfl, h⟩ := one_of hp
    obtain ⟨a, ws, rfl, l, r⟩ := h.tup
    exact ⟨a, ws, rfl, .inr ⟨l.sq, k _ _ _ q (ExtN.refl H) ht (.tup l r)⟩⟩
  · exact q.elim
end

/-! ### isinstance -/
def tyD : PyData → String
  | .none => "NoneType" | .bool _ => "bool" | .int _ => "int" | .str _ => "str" | .list _ => "list" | .tuple _ => "tuple" | .dict _ => "dict"
def isInt : PyData → Bool
  | .int _ => true | .bool _ => true | _ => false
def isBool : PyData → Bool
  | .bool _ => true | _ => false
def isStr : PyData → Bool
  | .str _ => true | _ => false
def isTup : PyData → Bool
  | .tuple _ => true | _ => false
def isLst : PyData → Bool
  | .list _ => true | _ => false
def isDct : PyData → Bool
  | .dict _ => true | _ => false
theorem kit_int (x : PyData) : kitB (tyD x) "int" = some (isInt x) := by
  cases x
  · exact (by decide +kernel : kitB "NoneType" "int" = some false)
  · exact (by decide +kernel : kitB "bool" "int" = some true)
  · exact (by decide +kernel : kitB "int" "int" = some true)
  · exact (by decide +kernel : kitB "str" "int" = some false)
  · exact (by decide +kernel : kitB "list" "int" = some false)
  · exact (by decide +kernel : kitB "tuple" "int" = some false)
  · exact (by decide +kernel : kitB "dict" "int" = some false)
theorem kit_bool (x : PyData) : kitB (tyD x) "bool" = some (isBool x) := by
  cases x
  · exact (by decide +kernel : kitB "NoneType" "bool" = some false)
  · exact (by decide +kernel : kitB "bool" "bool" = some true)
  · exact (by decide +kernel : kitB "int" "bool" = some false)
  · exact (by decide +kernel : kitB "str" "bool" = some false)
  · exact (by decide +kernel : kitB "list" "bool" = some false)
  · exact (by decide +kernel : kitB "tuple" "bool" = some false)
  · exact (by decide +kernel : kitB "dict" "bool" = some false)
theorem kit_str (x : PyData) : kitB (tyD x) "str" = some (isStr x) := by
  cases x
  · exact (by decide +kernel : kitB "NoneType" "str" = some false)
  · exact (by decide +kernel : kitB "bool" "str" = some false)
  · exact (by decide +kernel : kitB "int" "str" = some false)
  · exact (by decide +kernel : kitB "str" "str" = some true)
  · exact (by decide +kernel : kitB "list" "str" = some false)
  · exact (by decide +kernel : kitB "tuple" "str" = some false)
  · exact (by decide +kernel : kitB "dict" "str" = some false)
theorem kit_tup (x : PyData) : kitB (tyD x) "tuple" = some (isTup x) := by
  cases x
  · exact (by decide +kernel : kitB "NoneType" "tuple" = some false)
  · exact (by decide +kernel : kitB "bool" "tuple" = some false)
  · exact (by decide +kernel : kitB "int" "tuple" = some false)
  · exact (by decide +kernel : kitB "str" "tuple" = some false)
  · exact (by decide +kernel : kitB "list" "tuple" = some false)
  · exact (by decide +kernel : kitB "tuple" "tuple" = some true)
  · exact (by decide +kernel : kitB "dict" "tuple" = some false)
theorem kit_lst (x : PyData) : kitB (tyD x) "list" = some (isLst x) := by
  cases x
  · exact (by decide +kernel : kitB "NoneType" "list" = some false)
  · exact (by decide +kernel : kitB "bool" "list" = some false)
  · exact (by decide +kernel : kitB "int" "list" = some false)
  · exact (by decide +kernel : kitB "str" "list" = some false)
  · exact (by decide +kernel : kitB "list" "list" = some true)
  · exact (by decide +kernel : kitB "tuple" "list" = some false)
  · exact (by decide +kernel : kitB "dict" "list" = some false)
theorem kit_dct (x : PyData) : kitB (tyD x) "dict" = some (isDct x) := by
  cases x
  · exact (by decide +kernel : kitB "NoneType" "dict" = some false)
  · exact (by decide +kernel : kitB "bool" "dict" = some false)
  · exact (by decide +kernel : kitB "int" "dict" = some false)
  · exact (by decide +kernel : kitB "str" "dict" = some false)
  · exact (by decide +kernel : kitB "list" "dict" = some false)
  · exact (by decide +kernel : kitB "tuple" "dict" = some false)
  · exact (by decide +kernel : kitB "dict" "dict" = some true)
theorem WR.ty {K : PySem.W.Frag} {M : Ad} {H : Hp} {v : V} {x : PyData} (h : WR K M H v x) : TyX K H v (.type (tyD x)) := by
  cases x with
  | none => cases h.non; exact .base .non
  | bool b => cases h.bool; exact .base (.bl b)
  | int b => cases h.int; exact .base (.int b)
  | str b => cases h.str; exact .base (.str b)
  | list b => obtain ⟨a, vs, rfl, l, _⟩ := h.lst; exact .base (.lst l)
  | tuple b =>
    obtain ⟨a, vs, rfl, l, _⟩ := h.tup
    rcases l with ⟨_, l | ⟨o, l⟩⟩ | l
    · exact .base (.tup l)
    · exact .fTuple l
    · rcases l with l | ⟨o, its, n, e, c, _⟩
      · exact (rd_none l).elim
      · exact .kTuple e c
  | dict b => obtain ⟨_, a, rfl, l⟩ := h.dct; exact .base (.dK l)
section
variable {X : Cx} {T : List (Addr × Str)} {E : XK} {e c a b : Expr} {pos p : Pos}
def wIsi (f : PyData → Bool) (w : W) : W := fun ρ Q X => w ρ (fun r => r.wk fun x => Q (.d (.bool (f x)))) X
theorem ev_isi {f : PyData → Bool} {ty : String} {w : W} (hf : ∀ x, kitB (tyD x) ty = some (f x)) (hg : Gl X "isinstance") (hm : X.mg "isinstance" = none) (hv : bootBuiltins "isinstance" = some (.builtin "isinstance")) (he : PE X e (lift (pm X T) E w)) (hc : PE X c (tC (.ty ty)))
    (hs1 : starEach [e, c] X.env = (false, eval e X.env) :: starEach [c] X.env := by rfl) (hs2 : starEach [c] X.env = (false, eval c X.env) :: starEach [] X.env := by rfl) (hpl : (backTo pos (starEach [c] X.env)).any (·.1) = false := by rfl) :
    PE X (.Call (.Name "isinstance" p) [e, c] [] pos) (lift (pm X T) E (wIsi f w)) := by
  refine PEimp (pe_callB call_isi hg hm hv (pa_cons he (pa_cons hc pa_nil hs2) hs1) (by decide) (by decide) hs1 hpl) fun σ H Q ⟨H0, M0, M, ρ, XW, Q3, re, xo, q, k⟩ => ?_
  refine ⟨H0, M0, M, ρ, XW, _, re, xo, q, fun r v H1 qr e1 t1 rr => ?_⟩
  obtain ⟨x, hx, qx⟩ := rr.weak qr
  exact ⟨v, .ty ty, _, _, f x, rfl, .ty ty, hx.ty, kit_ty (hf x), k _ _ H1 qx e1 t1 (.bl _)⟩

/-! ### chains -/
def wChain (o o' : Op2) (a b c : W) : W := fun ρ Q X => a ρ (fun r => r.wk fun x => b ρ (fun s => s.wk fun y => o x y fun t => t.bl fun c1 =>
  if c1 = true then c ρ (fun u => u.wk fun z => o' y z Q) X else Q (.d (.bool false))) X) X
theorem ev_chain {op op' : CmpOp} {o o' : Op2} {wa wb wc : W} (ho : OpR X (compareOp op) (rD (pm X T) o)) (ho' : OpR X (compareOp op') (rD (pm X T) o')) (ha : PE X a (lift (pm X T) E wa)) (hb : PE X b (lift (pm X T) E wb)) (hc : PE X c (lift (pm X T) E wc))
    (hm : lastMarks [op, op'] [b, c] = false := by with_unfolding_all rfl) : PE X (.Compare a [op, op'] [b, c] pos) (lift (pm X T) E (wChain o o' wa wb wc)) := by
  refine PEimp (pe_chain ho ho' ha hb hc hm) fun σ H Q ⟨H0, M0, M, ρ, XW, Q3, re, xo, q, k⟩ => ?_
  refine ⟨H0, M0, M, ρ, XW, _, re, xo, q, fun r v H1 qr e1 t1 rr => ?_⟩
  obtain ⟨x, hx, qx⟩ := rr.weak qr
  refine ⟨H0, M0, M, ρ, XW, _, re.grow e1 t1, xo.grow e1, qx, fun s u H2 qs e2 t2 rs => ?_⟩
  obtain ⟨y, hy, qy⟩ := rs.weak qs
  have re2 := re.grow (e1.trans e2) t2
  refine ⟨M, x, y, _, re2.mdom, t2, hx.ext e2, hy, qy, fun t z H3 qt e3 t3 rt => ?_⟩
  obtain ⟨c1, ez, qc⟩ := rt.bool qt
  refine ⟨c1, ez, ?_⟩
  have re3 := re2.grow e3 t3
  cases c1 with
  | false => exact k _ _ H3 qc ((e1.trans e2).trans e3) t3 (.bl false)
  | true =>
    refine ⟨H0, M0, M, ρ, XW, _, re3, xo.grow ((e1.trans e2).trans e3), qc, fun u' w' H4 q4 e4 t4 r4 => ?_⟩
    obtain ⟨z', hz, qz⟩ := r4.weak q4
    exact ⟨M, y, z', Q3, (re3.grow e4 t4).mdom, t4, (hy.ext e3).ext e4, hz, qz, fun r' v' H5 q5 e5 t5 rr5 => k r' v' H5 q5 ((((e1.trans e2).trans e3).trans e4).trans e5) t5 (rr5.back (((e1.trans e2).trans e3).trans e4))⟩
theorem et_chain {op op' : CmpOp} {o o' : Op2} {wa wb wc : W} (ho : OpR X (compareOp op) (rD (pm X T) o)) (ho' : OpR X (compareOp op') (rD (pm X T) o')) (ha : PE X a (lift (pm X T) E wa)) (hb : PE X b (lift (pm X T) E wb)) (hc : PE X c (lift (pm X T) E wc))
    (hm : lastMarks [op, op'] [b, c] = false := by with_unfolding_all rfl) (hi : ∀ whole, isTrue (.Compare a [op, op'] [b, c] pos) X.env whole = (do let v ← whole; standAt (Expr.Compare a [op, op'] [b, c] pos).pos; holding [v] (truthy v)) := by intro _; rfl) :
    PT X (.Compare a [op, op'] [b, c] pos) (liftB (pm X T) E (wT (wChain o o' wa wb wc))) := et_val (ev_chain ho ho' ha hb hc hm) hi

/-! ### slices -/
abbrev WO := Env3 → (Option Int → Prop) → (Exc → Prop) → Prop
def wNo : WO := fun _ Q _ => Q none
def wPart (w : W) : WO := fun ρ Q X => w ρ (fun r => r.wk fun x => match x with | .int i => Q (some i) | _ => False) X
def liftO (P : Pm) (E : XK) (w : WO) : TO := fun σ H Q => ∃ H0 M0 M ρ XW Q3, RE P H0 M0 M H σ ρ ∧ XOk P E XW M H ∧ w ρ Q3 XW ∧ ∀ o H', Q3 o → ExtN H H' → Tabs P.T H' → Q o H'
theorem eo_no : PO X none (liftO (pm X T) E wNo) := ⟨fun pins s σ H Q I ⟨H0, M0, M, ρ, XW, Q3, re, xo, q, k⟩ => po_none.run pins s σ H Q I (k none H q (ExtN.refl H) re.tabs)⟩
theorem eo_part {w : W} (h : PE X e (lift (pm X T) E w)) : PO X (some e) (liftO (pm X T) E (wPart w)) := ⟨fun pins s σ H Q I ⟨H0, M0, M, ρ, XW, Q3, re, xo, q, k⟩ => (po_some h).run pins s σ H Q I (by
  refine ⟨H0, M0, M, ρ, XW, _, re, xo, q, fun r v H1 qr e1 t1 rr => ?_⟩
  obtain ⟨x, hx, qx⟩ := rr.weak qr
  cases x with
  | int i => exact ⟨i, hx.int, k _ H1 qx e1 t1⟩
  | _ => exact qx.elim)⟩
/-- the part lo .. hi -/
def cut {α : Type} (xs : List α) (lo hi : Option Int) : List α := (xs.drop (HT.sIx xs.length 0 lo)).take (HT.sIx xs.length xs.length hi - HT.sIx xs.length 0 lo)
def slD (x : PyData) (lo hi : Option Int) (k : R → Prop) : Prop := match x with
  | .list xs => k (.fr (cut xs lo hi))
  | .tuple xs => k (.d (.tuple (cut xs lo hi)))
  | _ => False
def wSl (w : W) (lo hi : WO) : W := fun ρ Q X => w ρ (fun r => r.wk fun x => lo ρ (fun l => hi ρ (fun h => slD x l h Q) X) X) X
theorem DMs.cut {K : PySem.W.Frag} {M : Ad} {H : Hp} {vs : List V} {xs : List PyData} {lo hi : Option Int} (h : DMs K M H vs xs) : DMs K M H (cutV vs lo hi) (cut xs lo hi) := by
  unfold cutV T3.cut
  rw [h.length]
  exact (h.drop _).take _
theorem ev_sl {w : W} {lo hi : Option Expr} {wl wh : WO} {p2 : Pos} (he : PE X e (lift (pm X T) E w)) (hl : PO X lo (liftO (pm X T) E wl)) (hh : PO X hi (liftO (pm X T) E wh)) :
    PE X (.Subscript e (.Slice lo hi none p2) pos) (lift (pm X T) E (wSl w wl wh)) := by
  refine PEimp (pe_slice (sl_list.or sl_tupA) he hl hh) fun σ H Q ⟨H0, M0, M, ρ, XW, Q3, re, xo, q, k⟩ => ?_
  refine ⟨H0, M0, M, ρ, XW, _, re, xo, q, fun r v H1 qr e1 t1 rr => ?_⟩
  obtain ⟨x, hx, qx⟩ := rr.weak qr
  refine ⟨H0, M0, M, ρ, XW, _, re.grow e1 t1, xo.grow e1, qx, fun l H2 ql e2 t2 => ?_⟩
  refine ⟨H0, M0, M, ρ, XW, _, re.grow (e1.trans e2) t2, xo.grow (e1.trans e2), ql, fun h H3 qh e3 t3 => ?_⟩
  have e13 := (e1.trans e2).trans e3
  have hx := (hx.ext e2).ext e3
  unfold slD at qh
  split at qh
  · obtain ⟨a, vs, e4, l4, r4⟩ := hx.lst
    exact .inl ⟨a, vs, e4, SqL.of l4, fun p np => k _ _ _ qh (e13.trans (ext_new np)) (tabs_new t3 np) (lst_new e13 np r4.cut)⟩
  · obtain ⟨a, vs, e4, l4, r4⟩ := hx.tup
    refine .inr ⟨a, vs, e4, l4.sq, fun z => ?_, fun _ p np => ?_⟩
    · have c : ∀ {α : Type} (ys : List α), HT.sIx ys.length 0 l = 0 ∧ HT.sIx ys.length ys.length h = ys.length → T3.cut ys l h = ys := fun ys w => by
        unfold T3.cut
        rw [w.1, w.2, List.drop_zero, Nat.sub_zero, List.take_length]
      rw [r4.length] at z
      rw [c _ z] at qh
      exact k _ _ _ qh e13 t3 (.tup l4 r4)
    · exact k _ _ _ qh (e13.trans (ext_new np)) (tabs_new t3 np) (tup_new re.mdom e13 np r4.cut)
  · exact qh.elim
end
end T3
set_option linter.all false
set_option maxRecDepth 100000
set_option maxHeartbeats 2000000
set_option Elab.async false
/-! T5: slots stored, targets, what is walked, comprehensions, loops. -/
namespace T3
open L2 LamX PySem PyProof.Rows PySem.Spec
def noX : Exc → Prop := fun _ => False

/-! ### slots stored -/
theorem set_get {α : Type} {l : List (Option α)} {i j : Nat} {x : Option α} {y : α} (h : (l.set i x)[j]? = some (some y)) : (i = j ∧ x = some y ∧ i < l.length) ∨ (i ≠ j ∧ l[j]? = some (some y)) := by
  by_cases e : i = j
  · subst e
    by_cases q : i < l.length
    · rw [List.getElem?_set_self q] at h
      exact .inl ⟨rfl, Option.some.inj h, q⟩
    · rw [List.getElem?_eq_none (by simpa using q)] at h
      cases h
  · rw [List.getElem?_set_ne e] at h
    exact .inr ⟨e, h⟩
theorem tabs_upd {T : List (Addr × Str)} {H : Hp} {p : Addr} {vs vs' : List V} (t : Tabs T H) (hp : H p = some (.lst vs)) : Tabs T (upd H p (.lst vs')) := fun z hz => by
  obtain ⟨ps, h1, h2, h3⟩ := t z hz
  refine ⟨ps, ?_, h2, fun pos cv hc => ?_⟩
  · rw [upd_ne (ne_of h1 hp (fun q => by cases q))]
    exact h1
  · obtain ⟨c, e1, e2⟩ := h3 pos cv hc
    refine ⟨c, e1, ?_⟩
    rw [upd_ne (ne_of e2 hp (fun q => by cases q))]
    exact e2
section
variable {P : Pm} {H0 H H' : Hp} {M0 M : Ad} {σ : St} {ρ : Env3}
/-- a slot forgotten -/
theorem RE.unset (r : RE P H0 M0 M H σ ρ) (i : Nat) (v : Option V) : RE P H0 M0 M H (σ.set i v) (ρ.set i none) where
  ext := r.ext
  tabs := r.tabs
  m0 := r.m0
  mdom := r.mdom
  mown := r.mown
  m0dom := r.m0dom
  slot := fun j z q => by
    rcases set_get q with ⟨_, e, _⟩ | ⟨ne, q⟩
    · cases e
    · obtain ⟨w, h1, h2⟩ := r.slot j z q
      exact ⟨w, by rw [List.getElem?_set_ne ne]; exact h1, h2⟩
  ownf := fun j xs a q hσ => by
    rcases set_get q with ⟨_, e, _⟩ | ⟨ne, q⟩
    · cases e
    · rw [List.getElem?_set_ne ne] at hσ
      exact r.ownf j xs a q hσ
  ownd := fun j k xs ys a hne q1 q2 hσ => by
    rcases set_get q1 with ⟨_, e, _⟩ | ⟨ne1, q1⟩
    · cases e
    · rcases set_get q2 with ⟨_, e, _⟩ | ⟨ne2, q2⟩
      · cases e
      · rw [List.getElem?_set_ne ne1] at hσ
        rw [List.getElem?_set_ne ne2]
        exact r.ownd j k xs ys a hne q1 q2 hσ
  len := by rw [List.length_set, List.length_set]; exact r.len
/-- a slot stored: a tree, the hand, the script -/
theorem RE.set {v : V} {z : R} (r : RE P H0 M0 M H σ ρ) (i : Nat) (h : RA P.K M H v z) : RE P H0 M0 M H (σ.set i (some v)) (ρ.set i (some z)) where
  ext := r.ext
  tabs := r.tabs
  m0 := r.m0
  mdom := r.mdom
  mown := r.mown
  m0dom := r.m0dom
  slot := fun j y q => by
    rcases set_get q with ⟨e, e2, hi⟩ | ⟨ne, q⟩
    · subst e
      cases e2
      exact ⟨v, by rw [List.getElem?_set_self (by rw [← r.len]; exact hi)], h.rs⟩
    · obtain ⟨w, h1, h2⟩ := r.slot j y q
      exact ⟨w, by rw [List.getElem?_set_ne ne]; exact h1, h2⟩
  ownf := fun j xs a q hσ => by
    rcases set_get q with ⟨_, e, _⟩ | ⟨ne, q⟩
    · cases e
      exact False.elim h
    · rw [List.getElem?_set_ne ne] at hσ
      exact r.ownf j xs a q hσ
  ownd := fun j k xs ys a hne q1 q2 hσ => by
    rcases set_get q1 with ⟨_, e, _⟩ | ⟨ne1, q1⟩
    · cases e
      exact False.elim h
    · rcases set_get q2 with ⟨_, e, _⟩ | ⟨ne2, q2⟩
      · cases e
        exact False.elim h
      · rw [List.getElem?_set_ne ne1] at hσ
        rw [List.getElem?_set_ne ne2]
        exact r.ownd j k xs ys a hne q1 q2 hσ
  len := by rw [List.length_set, List.length_set]; exact r.len
/-- a new list stored, the frame's own -/
theorem RE.setO {v : V} {xs : List PyData} (r : RE P H0 M0 M H σ ρ) (e : ExtN H H') (t : Tabs P.T H') (i : Nat) (h : RR P.K M H H' v (.fr xs)) :
    ∃ M', RE P H0 M0 M' H' (σ.set i (some v)) (ρ.set i (some (.own xs))) := by
  obtain ⟨p, vs, rfl, o, hp, hx⟩ := h
  have g := r.grow e t
  have nold : ∀ j ys a, ρ[j]? = some (some (R.own ys)) → σ[j]? = some (some (V.ref a)) → a ≠ p := fun j ys a q hσ z => by
    subst z
    obtain ⟨w, h1, b, ws, e1, m, _⟩ := r.slot j _ q
    rw [hσ] at h1
    cases h1
    cases e1
    exact r.mdom _ m o
  refine ⟨fun b => M b ∨ b = p, ?_⟩
  refine ⟨g.ext, t, fun a m => .inl (r.m0 a m), fun a m => ?_, fun a m => ?_, r.m0dom, fun j y q => ?_, fun j ys a q hσ => ?_, fun j k ys zs a hne q1 q2 hσ => ?_, by rw [List.length_set, List.length_set]; exact r.len⟩
  · rcases m with m | rfl
    · exact g.mdom a m
    · intro z
      obtain ⟨ps, q⟩ := z _ hp
      cases q
  · rcases m with m | rfl
    · exact r.mown a m
    · exact .inr (o.back r.ext)
  · rcases set_get q with ⟨e3, e2, hi⟩ | ⟨ne, q⟩
    · subst e3
      cases e2
      exact ⟨.ref p, by rw [List.getElem?_set_self (by rw [← r.len]; exact hi)], p, vs, rfl, .inr rfl, hp, hx⟩
    · obtain ⟨w, h1, h2⟩ := r.slot j y q
      refine ⟨w, by rw [List.getElem?_set_ne ne]; exact h1, ?_⟩
      have up : ∀ {v d}, DM P.K M H v d → DM P.K (fun b => M b ∨ b = p) H' v d := fun h => DM.fm (.of e) (DM.more o h)
      cases y with
      | d x => exact up h2
      | own ys =>
        obtain ⟨a, ws, e1, m, e4, e5⟩ := h2
        exact ⟨a, ws, e1, .inl m, e _ _ e4 (fun ps q => by cases q), DMs.fm (.of e) (DMs.more o e5)⟩
      | fr ys => exact False.elim h2
      | hand L =>
        obtain ⟨a, e1, h2⟩ := h2
        exact ⟨a, e1, (h2.more o).fm (.of e)⟩
      | scr ns =>
        obtain ⟨a, e1, h2⟩ := h2
        exact ⟨a, e1, (h2.more o).fm (.of e)⟩
      | adr b => exact h2
  · rcases set_get q with ⟨e3, e2, hi⟩ | ⟨ne, q⟩
    · subst e3
      rw [List.getElem?_set_self (by rw [← r.len]; exact hi)] at hσ
      cases hσ
      exact o.back r.ext
    · rw [List.getElem?_set_ne ne] at hσ
      exact r.ownf j ys a q hσ
  · rcases set_get q1 with ⟨e3, e2, hi⟩ | ⟨ne1, q1⟩
    · subst e3
      rw [List.getElem?_set_self (by rw [← r.len]; exact hi)] at hσ
      cases hσ
      rcases set_get q2 with ⟨e4, _, _⟩ | ⟨ne2, q2⟩
      · exact absurd e4 hne
      · rw [List.getElem?_set_ne ne2]
        exact fun z => nold k zs _ q2 z rfl
    · rw [List.getElem?_set_ne ne1] at hσ
      rcases set_get q2 with ⟨e4, e2, hi⟩ | ⟨ne2, q2⟩
      · subst e4
        rw [List.getElem?_set_self (by rw [← r.len]; exact hi)]
        intro z
        cases z
        exact nold j ys _ q1 hσ rfl
      · rw [List.getElem?_set_ne ne2]
        exact r.ownd j k ys zs a hne q1 q2 hσ
/-- the frame's own list, changed in place -/
theorem RE.upd {p : Addr} {vs' : List V} {xs xs' : List PyData} {i : Nat} (r : RE P H0 M0 M H σ ρ) (q : ρ[i]? = some (some (.own xs))) (hσ : σ[i]? = some (some (.ref p))) (h : DMs P.K M H vs' xs') :
    RE P H0 M0 M (upd H p (.lst vs')) σ (ρ.set i (some (.own xs'))) := by
  obtain ⟨w, h1, b, ws, e1, m, hp, hx⟩ := r.slot i _ q
  rw [hσ] at h1
  cases h1
  cases e1
  have o0 := r.ownf i xs p q hσ
  have fm : Fm M H (L2.upd H p (.lst vs')) := fun c u z nm nt => by
    rw [upd_ne (show c ≠ p from fun w => nm (by rw [w]; exact m))]
    exact z
  refine ⟨fun c u z nt => ?_, tabs_upd r.tabs hp, r.m0, fun a ma z => ?_, r.mown, r.m0dom, fun j y qj => ?_, fun j ys a qj hj => ?_, fun j k ys zs a hne q1 q2 hj => ?_, by rw [List.length_set]; exact r.len⟩
  · rw [upd_ne (show c ≠ p from fun w => by
      subst w
      obtain ⟨ps, e⟩ := o0 _ z
      exact nt ps e)]
    exact r.ext c u z nt
  · by_cases e : a = p
    · subst e
      obtain ⟨ps, w⟩ := z _ upd_same
      cases w
    · refine r.mdom a ma fun u hu => z u ?_
      rw [upd_ne e]
      exact hu
  · rcases set_get qj with ⟨e3, e2, hi⟩ | ⟨ne, qj⟩
    · subst e3
      cases e2
      exact ⟨_, hσ, p, vs', rfl, m, upd_same, DMs.fm fm h⟩
    · obtain ⟨w, h1, h2⟩ := r.slot j y qj
      refine ⟨w, h1, ?_⟩
      cases y with
      | d x => exact DM.fm fm h2
      | own ys =>
        obtain ⟨a, us, e1, ma, e4, e5⟩ := h2
        subst e1
        refine ⟨a, us, rfl, ma, ?_, DMs.fm fm e5⟩
        rw [upd_ne (show a ≠ p from fun z => by
          subst z
          exact r.ownd i j xs ys a ne q qj hσ h1)]
        exact e4
      | fr ys => exact False.elim h2
      | hand L =>
        obtain ⟨a, e1, h2⟩ := h2
        exact ⟨a, e1, h2.fm fm⟩
      | scr ns =>
        obtain ⟨a, e1, h2⟩ := h2
        exact ⟨a, e1, h2.fm fm⟩
      | adr b => exact h2
  · rcases set_get qj with ⟨e3, e2, hi⟩ | ⟨ne, qj⟩
    · subst e3
      exact r.ownf i xs a q hj
    · exact r.ownf j ys a qj hj
  · rcases set_get q1 with ⟨e3, _, _⟩ | ⟨ne1, q1⟩
    · subst e3
      rcases set_get q2 with ⟨e4, _, _⟩ | ⟨ne2, q2⟩
      · exact absurd e4 hne
      · exact r.ownd i k xs zs a hne q q2 hj
    · rcases set_get q2 with ⟨e4, _, _⟩ | ⟨ne2, q2⟩
      · subst e4
        exact r.ownd j i ys xs a hne q1 q hj
      · exact r.ownd j k ys zs a hne q1 q2 hj
/-- the frame's own list becomes a tree -/
theorem RE.freeze {xs : List PyData} {i : Nat} (r : RE P H0 M0 M H σ ρ) (q : ρ[i]? = some (some (.own xs))) : ∃ M', RE P H0 M0 M' H σ (ρ.set i (some (.d (.list xs)))) := by
  obtain ⟨w, h1, p, ws, e1, m, hp, hx⟩ := r.slot i _ q
  subst e1
  have o0 := r.ownf i xs p q h1
  have sub : ∀ b, (M b ∧ b ≠ p) → M b := fun b z => z.1
  refine ⟨fun b => M b ∧ b ≠ p, r.ext, r.tabs, fun a ma => ⟨r.m0 a ma, fun z => ?_⟩, fun a ma => r.mdom a ma.1, fun a ma => r.mown a ma.1, r.m0dom, fun j y qj => ?_, fun j ys a qj hj => ?_, fun j k ys zs a hne q1 q2 hj => ?_, by rw [List.length_set]; exact r.len⟩
  · subst z
    exact r.m0dom _ ma o0
  · rcases set_get qj with ⟨e3, e2, hi⟩ | ⟨ne, qj⟩
    · subst e3
      cases e2
      exact ⟨_, h1, .lst ⟨fun z => z.2 rfl, hp⟩ (DMs.anti sub hx)⟩
    · obtain ⟨w, g1, g2⟩ := r.slot j y qj
      refine ⟨w, g1, ?_⟩
      cases y with
      | d x => exact DM.anti sub g2
      | own ys =>
        obtain ⟨a, us, e1, ma, e4, e5⟩ := g2
        subst e1
        refine ⟨a, us, rfl, ⟨ma, fun z => ?_⟩, e4, DMs.anti sub e5⟩
        subst z
        exact r.ownd i j xs ys a ne q qj h1 g1
      | fr ys => exact False.elim g2
      | hand L =>
        obtain ⟨a, e1, h2⟩ := g2
        exact ⟨a, e1, h2.anti sub⟩
      | scr ns =>
        obtain ⟨a, e1, h2⟩ := g2
        exact ⟨a, e1, h2.anti sub⟩
      | adr b => exact g2
  · rcases set_get qj with ⟨_, e, _⟩ | ⟨ne, qj⟩
    · cases e
    · exact r.ownf j ys a qj hj
  · rcases set_get q1 with ⟨_, e, _⟩ | ⟨ne1, q1⟩
    · cases e
    · rcases set_get q2 with ⟨_, e, _⟩ | ⟨ne2, q2⟩
      · cases e
      · exact r.ownd j k ys zs a hne q1 q2 hj
end
end T3
set_option linter.all false
set_option maxRecDepth 100000
set_option maxHeartbeats 2000000
set_option Elab.async false
/-! T6: targets, what is walked, comprehensions, loops. -/
namespace T3
open L2 LamX PySem PyProof.Rows PySem.Spec

/-! ### targets -/
inductive Tg where
  | one (i : Nat)
  | tup (ts : List Tg)
mutual
def Tg.ix : Tg → List Nat
  | .one i => [i]
  | .tup ts => ixs ts
def ixs : List Tg → List Nat
  | [] => []
  | t :: ts => t.ix ++ ixs ts
end
mutual
def tgG (K : PySem.W.Frag) : Tg → TG
  | .one i => gName i
  | .tup ts => gTup K ts.length (tgGs K ts)
def tgGs (K : PySem.W.Frag) : List Tg → TGs
  | [] => gNil
  | t :: ts => gCons (tgG K t) (tgGs K ts)
end
mutual
def tgW : Tg → PyData → Env3 → (Env3 → Prop) → Prop
  | .one i, x, ρ, Q => Q (ρ.set i (some (.d x)))
  | .tup ts, x, ρ, Q => match x with
    | .tuple xs => xs.length = ts.length ∧ tgWs ts xs ρ Q
    | _ => False
def tgWs : List Tg → List PyData → Env3 → (Env3 → Prop) → Prop
  | [], [], ρ, Q => Q ρ
  | t :: ts, x :: xs, ρ, Q => tgW t x ρ fun ρ' => tgWs ts xs ρ' Q
  | [], _ :: _, _, _ => False
  | _ :: _, [], _, _ => False
end
theorem wipe_set {σ : St} {i : Nat} {v : Option V} : ∀ {vs : List Nat}, i ∈ vs → wipe (σ.set i v) vs = wipe σ vs
  | [], h => by cases h
  | k :: vs, h => by
    show (wipe (σ.set i v) vs).set k none = (wipe σ vs).set k none
    by_cases e : i ∈ vs
    · rw [wipe_set e]
    · have ek : i = k := by
        rcases List.mem_cons.mp h with z | z
        · exact z
        · exact absurd z e
      subst ek
      have c : ∀ (ws : List Nat) (τ : St), i ∉ ws → wipe (τ.set i v) ws = (wipe τ ws).set i v := by
        intro ws
        induction ws with
        | nil => intro τ _; rfl
        | cons w ws ih =>
          intro τ hn
          show (wipe (τ.set i v) ws).set w none = ((wipe τ ws).set w none).set i v
          rw [ih τ (fun z => hn (List.mem_cons_of_mem _ z)), List.set_comm _ _ (fun z => hn (by rw [z]; exact List.mem_cons_self))]
      rw [c vs σ e, List.set_set]
section
variable {P : Pm} {H0 H H' : Hp} {M0 M : Ad} {σ : St} {ρ : Env3}
mutual
theorem tg_ok : ∀ (t : Tg) {v : V} {x : PyData} {Q3 : Env3 → Prop} {Q : St → Hp → Prop} {σ : St} {ρ : Env3}, RE P H0 M0 M H σ ρ → DM P.K M H v x → tgW t x ρ Q3 →
    (∀ σ' ρ', Q3 ρ' → RE P H0 M0 M H σ' ρ' → (∀ ws : List Nat, (∀ i ∈ t.ix, i ∈ ws) → wipe σ' ws = wipe σ ws) → Q σ' H) → tgG P.K t v σ H Q
  | .one i, v, x, Q3, Q, σ, ρ, re, h, q, k => k _ _ (by rw [tgW] at q; exact q) (re.set i (z := .d x) h) fun ws hs => wipe_set (hs i (by rw [Tg.ix]; exact List.mem_cons_self))
  | .tup ts, v, x, Q3, Q, σ, ρ, re, h, q, k => by
    cases x with
    | tuple xs =>
      simp only [tgW] at q
      cases h with
      | tup l r =>
        rw [tgG]
        exact ⟨_, _, rfl, l.sq, by rw [r.length]; exact q.1, tgs_ok ts re r q.2 fun σ' ρ' q' re' hw => k σ' ρ' q' re' fun ws hs => hw ws fun i hi => hs i (by rw [Tg.ix]; exact hi)⟩
    | _ => simp only [tgW] at q
theorem tgs_ok : ∀ (ts : List Tg) {vs : List V} {xs : List PyData} {Q3 : Env3 → Prop} {Q : St → Hp → Prop} {σ : St} {ρ : Env3}, RE P H0 M0 M H σ ρ → DMs P.K M H vs xs → tgWs ts xs ρ Q3 →
    (∀ σ' ρ', Q3 ρ' → RE P H0 M0 M H σ' ρ' → (∀ ws : List Nat, (∀ i ∈ ixs ts, i ∈ ws) → wipe σ' ws = wipe σ ws) → Q σ' H) → tgGs P.K ts vs σ H Q
  | [], _, _, Q3, Q, σ, ρ, re, .nil, q, k => by
    rw [tgWs] at q
    rw [tgGs]
    exact ⟨rfl, k σ ρ q re fun _ _ => rfl⟩
  | t :: ts, _, _, Q3, Q, σ, ρ, re, .cons h r, q, k => by
    rw [tgWs] at q
    rw [tgGs]
    refine ⟨_, _, rfl, tg_ok t re h q fun σ1 ρ1 q1 re1 hw1 => tgs_ok ts re1 r q1 fun σ2 ρ2 q2 re2 hw2 => k σ2 ρ2 q2 re2 fun ws hs => ?_⟩
    rw [hw2 ws fun i hi => hs i (by rw [ixs]; exact List.mem_append_right _ hi), hw1 ws fun i hi => hs i (by rw [ixs]; exact List.mem_append_left _ hi)]
  | [], _, _, _, _, _, _, _, .cons _ _, q, _ => by
    rw [tgWs] at q
    exact q.elim
  | _ :: _, _, _, _, _, _, _, _, .nil, q, _ => by
    rw [tgWs] at q
    exact q.elim
end
end

/-! ### the frame's heap told anew -/
noncomputable def rest0 (M0 M : Ad) (H : Hp) : Hp := fun b => by
  classical
  exact if M b ∧ ¬ M0 b then none else H b
theorem rest0_get {M0 M : Ad} {H : Hp} {b : Addr} {o : HO} (h : rest0 M0 M H b = some o) : H b = some o := by
  unfold rest0 at h
  split at h
  · cases h
  · exact h
theorem rest0_at {M0 M : Ad} {H : Hp} {b : Addr} (h : ¬ (M b ∧ ¬ M0 b)) : rest0 M0 M H b = H b := by
  unfold rest0
  rw [if_neg h]
theorem rest0_off {M0 M : Ad} {H : Hp} {b : Addr} (h : M b) (h0 : ¬ M0 b) : rest0 M0 M H b = none := by
  unfold rest0
  rw [if_pos ⟨h, h0⟩]
section
variable {P : Pm} {H0 H H' : Hp} {M0 M M' : Ad} {σ σ' : St} {ρ ρ' : Env3}
theorem RE.own0 (r : RE P H0 M0 M H σ ρ) : ExtN H0 (rest0 M0 M H) := fun b o e n => by
  rw [rest0_at]
  · exact r.ext b o e n
  · rintro ⟨m, m0⟩
    rcases r.mown b m with z | z
    · exact m0 z
    · obtain ⟨ps, w⟩ := z _ e
      exact n ps w
theorem RE.rebase (r : RE P H0 M0 M H σ ρ) : RE P (rest0 M0 M H) M0 M H σ ρ where
  ext := fun b o e _ => rest0_get e
  tabs := r.tabs
  m0 := r.m0
  mdom := r.mdom
  mown := fun a m => by
    by_cases z : M0 a
    · exact .inl z
    · exact .inr (.of_none (rest0_off m z))
  m0dom := fun a m z => r.mdom a (r.m0 a m) fun o e => z o (by rw [rest0_at (fun w => w.2 m)]; exact e)
  slot := r.slot
  ownf := fun i xs a q hσ => by
    obtain ⟨w, h1, b, ws, e1, m, _⟩ := r.slot i _ q
    rw [hσ] at h1
    cases h1
    cases e1
    exact .of_none (rest0_off m fun z => r.m0dom a z (r.ownf i xs a q hσ))
  ownd := r.ownd
  len := r.len
/-- .. and back -/
theorem RE.unbase (r0 : RE P H0 M0 M H σ ρ) (r : RE P (rest0 M0 M H) M0 M' H' σ' ρ') : RE P H0 M0 M' H' σ' ρ' where
  ext := r0.own0.trans r.ext
  tabs := r.tabs
  m0 := r.m0
  mdom := r.mdom
  mown := fun a m => (r.mown a m).imp id fun z => z.back r0.own0
  m0dom := r0.m0dom
  slot := r.slot
  ownf := fun i xs a q hσ => (r.ownf i xs a q hσ).back r0.own0
  ownd := r.ownd
  len := r.len
theorem RE.fm0 (r : RE P H0 M0 M H σ ρ) : Fm M H (rest0 M0 M H) := fun b o e m _ => by
  rw [rest0_at (fun z => m z.1)]
  exact e
end

/-! ### what is walked -/
structure WalkT (K : PySem.W.Frag) (T : List (Addr × Str)) (M : Ad) (F : Hp) (J : It) (xs : List PyData) : Prop where
  ex : ∃ (G : Hp → Prop) (Y : Nat → Hp → V → Hp → Prop), Walk J xs.length G Y ∧ (∀ H, ExtN F H → G H) ∧
    ∀ i H x H' M', i < xs.length → ExtN F H → (∀ a, M' a → M a ∨ Off F a) → (∀ a, M' a → ¬ Off H a) → Y i H x H' → ExtN H H' ∧ (Tabs T H → Tabs T H') ∧ ∃ d, xs[i]? = some d ∧ DM K M' H' x d
abbrev WI := Env3 → (Bool → List PyData → Prop) → (Exc → Prop) → Prop
/-- wk: it is a list of the frame's own that is walked -/
def liftI (P : Pm) (E : XK) (w : WI) : TI := fun σ H R => ∃ H0 M0 M ρ XW Q3, RE P H0 M0 M H σ ρ ∧ XOk P E XW M H ∧ w ρ Q3 XW ∧
  ∀ wk xs J H', Q3 wk xs → ExtN H H' → Tabs P.T H' → xs.length ≤ sizeLine → (∀ F, (wk = false → Fm M H' F) → (wk = true → F = H') → WalkT P.K P.T M F J xs) → R J H'
section
variable {K : PySem.W.Frag} {T : List (Addr × Str)} {M M' : Ad} {H F : Hp}
mutual
theorem DM.off : ∀ {v : V} {d : PyData}, DM K M F v d → ExtN F H → (∀ a, M' a → M a ∨ Off F a) → DM K M' H v d
  | _, _, .non, _, _ => .non
  | _, _, .bl b, _, _ => .bl b
  | _, _, .int i, _, _ => .int i
  | _, _, .str x, _, _ => .str x
  | _, _, .lst h r, e, m => .lst ⟨fun z => (m _ z).elim h.1 fun o => o.rd (.inl h.2) (fun ps q => by cases q) rfl, e _ _ h.2 (fun ps q => by cases q)⟩ (DMs.off r e m)
  | _, _, .tup h r, e, m => .tup (h.imp (fun z => ⟨fun w => (m _ w).elim z.1 fun o => o.rd z.2 (fun ps q => by cases q) rfl, Fm.rd (.of e) z.1 (fun ps q => by cases q) z.2⟩) id) (DMs.off r e m)
  | _, _, .dct0 n h, e, m => .dct0 (fun z => (m _ z).elim n fun o => o.rd (.inl h) (fun ps q => by cases q) rfl) (e _ _ h (fun ps q => by cases q))
theorem DMs.off : ∀ {vs : List V} {ds : List PyData}, DMs K M F vs ds → ExtN F H → (∀ a, M' a → M a ∨ Off F a) → DMs K M' H vs ds
  | _, _, .nil, _, _ => .nil
  | _, _, .cons h r, e, m => .cons (DM.off h e m) (DMs.off r e m)
end
end
section
variable {X : Cx} {T : List (Addr × Str)} {E : XK} {e a b : Expr} {pos p : Pos} {tg : Expr}
theorem PIimp {t t' : TI} (h : PI X tg e t) (f : ∀ σ H R, t' σ H R → t σ H R) : PI X tg e t' := ⟨fun pins s σ H R I q => h.run pins s σ H R I (f _ _ _ q)⟩
/-- a value's length, as the heap has it -/
def LenOk (K : PySem.W.Frag) (v : V) (H : Hp) : Prop := ∀ a vs, v = .ref a → SqL K H a vs ∨ SqT K H a vs → vs.length ≤ sizeLine
theorem PElen {t : TE} (h : PE X e t) : PE X e (fun σ H Q => t σ H fun v H1 => LenOk X.K v H1 → Q v H1) :=
  ⟨fun pins s σ H Q I q => thn (h.run pins s σ H _ I q) fun u s1 ⟨v, H1, I1, r, q1⟩ => ⟨v, H1, I1, r, q1 fun a vs _ l => by
    rcases l with l | l
    · obtain ⟨_, _, _, z⟩ := I1.list l
      exact z
    · obtain ⟨_, _, _, z⟩ := I1.tuple l
      exact z⟩⟩
theorem walk_lst {M : Ad} {a : Addr} {vs : List V} {xs : List PyData} {F : Hp} (hF : F a = some (.lst vs)) (hd : DMs X.K M F vs xs) : WalkT X.K T M F (Itl X.K a) xs := by
  refine ⟨⟨fun H => SqL X.K H a vs, YAt vs, ?_, fun H e => SqL.of (e _ _ hF (fun ps q => by cases q)), fun i H x H' M' hi e m _ y => ?_⟩⟩
  · rw [← hd.length]
    exact walk_list
  · obtain ⟨rfl, hx⟩ := y
    obtain ⟨d, h1, h2⟩ := hd.get hx
    exact ⟨ExtN.refl _, id, d, h1, h2.off e m⟩
theorem sqT_ext {K : PySem.W.Frag} {H H' : Hp} {a : Addr} {xs : List V} (e : ExtN H H') (h : SqT K H a xs) : SqT K H' a xs := by
  rcases h with (h | ⟨o, h⟩) | h
  · exact .inl (.inl (e _ _ h (fun ps q => by cases q)))
  · exact .inl (.inr ⟨o, e _ _ h (fun ps q => by cases q)⟩)
  · exact .inr h
theorem walk_tpl {M : Ad} {a : Addr} {vs : List V} {xs : List PyData} {F : Hp} (hF : SqT X.K F a vs) (hd : DMs X.K M F vs xs) : WalkT X.K T M F (Itt X.K a) xs := by
  refine ⟨⟨fun H => SqT X.K H a vs, YAt vs, ?_, fun H e => sqT_ext e hF, fun i H x H' M' hi e m _ y => ?_⟩⟩
  · rw [← hd.length]
    exact walk_tup
  · obtain ⟨rfl, hx⟩ := y
    obtain ⟨d, h1, h2⟩ := hd.get hx
    exact ⟨ExtN.refl _, id, d, h1, h2.off e m⟩
/-- a list -/
def wIl (w : W) : WI := fun ρ Q X => w ρ (fun r => match r with
  | .d (.list xs) => Q false xs
  | .fr xs => Q false xs
  | .own xs => Q true xs
  | _ => False) X
theorem ei_list {w : W} (h : PE X e (lift (pm X T) E w)) : PI X tg e (liftI (pm X T) E (wIl w)) := by
  refine PIimp (pi_list (PElen h)) fun σ H R ⟨H0, M0, M, ρ, XW, Q3, re, xo, q, k⟩ => ?_
  refine ⟨H0, M0, M, ρ, XW, _, re, xo, q, fun r v H1 qr e1 t1 rr len => ?_⟩
  cases r with
  | d x =>
    cases x with
    | list xs =>
      cases rr with
      | lst l r =>
        exact ⟨_, rfl, ⟨_, SqL.of l.2⟩, k false xs _ H1 qr e1 t1 (by rw [← r.length]; exact len _ _ rfl (.inl (SqL.of l.2))) fun F hF _ => walk_lst ((hF rfl) _ _ l.2 l.1 (fun ps q => by cases q)) (DMs.fm (hF rfl) r)⟩
    | _ => exact qr.elim
  | own xs =>
    obtain ⟨p, vs, rfl, m, h2, h3⟩ := rr
    refine ⟨_, rfl, ⟨_, SqL.of h2⟩, k true xs _ H1 qr e1 t1 (by rw [← h3.length]; exact len _ _ rfl (.inl (SqL.of h2))) fun F _ hF => ?_⟩
    cases hF rfl
    exact walk_lst h2 h3
  | fr xs =>
    obtain ⟨p, vs, rfl, o, h2, h3⟩ := rr
    have nm : ¬ M p := fun z => re.mdom p z o
    refine ⟨_, rfl, ⟨_, SqL.of h2⟩, k false xs _ H1 qr e1 t1 (by rw [← h3.length]; exact len _ _ rfl (.inl (SqL.of h2))) fun F hF _ => ?_⟩
    exact walk_lst ((hF rfl) _ _ h2 nm (fun ps q => by cases q)) (DMs.fm (hF rfl) (DMs.anti (fun b z => .inl z) h3))
  | hand L => exact qr.elim
  | scr ns => exact qr.elim
  | adr b => exact qr.elim
/-- a tuple -/
def wIt (w : W) : WI := fun ρ Q X => w ρ (fun r => match r with
  | .d (.tuple xs) => Q false xs
  | _ => False) X
theorem ei_tup {w : W} (h : PE X e (lift (pm X T) E w)) : PI X tg e (liftI (pm X T) E (wIt w)) := by
  refine PIimp (pi_tup (PElen h)) fun σ H R ⟨H0, M0, M, ρ, XW, Q3, re, xo, q, k⟩ => ?_
  refine ⟨H0, M0, M, ρ, XW, _, re, xo, q, fun r v H1 qr e1 t1 rr len => ?_⟩
  cases r with
  | d x =>
    cases x with
    | tuple xs =>
      cases rr with
      | tup l r =>
        exact ⟨_, rfl, ⟨_, l.sq⟩, k false xs _ H1 qr e1 t1 (by rw [← r.length]; exact len _ _ rfl (.inr l.sq)) fun F hF _ => walk_tpl (l.fm (hF rfl)).sq (DMs.fm (hF rfl) r)⟩
    | _ => exact qr.elim
  | _ => exact qr.elim
/-- range(a), range(a, b) -/
def rgD (lo hi : Int) : List PyData := (List.range (hi - lo).toNat).map fun (i : Nat) => PyData.int (lo + i)
def wIr1 (w : W) : WI := fun ρ Q X => w ρ (fun r => r.wk fun x => match x with
  | .int n => (-1000000 ≤ n ∧ n ≤ 16777216) ∧ Q false (rgD 0 n)
  | _ => False) X
def wIr2 (a b : W) : WI := fun ρ Q X => a ρ (fun r => r.wk fun x => b ρ (fun s => s.wk fun y => match x, y with
  | .int i, .int j => (-1000000 ≤ i ∧ i ≤ 16777216 ∧ -1000000 ≤ j ∧ j - i ≤ 16777216) ∧ Q false (rgD i j)
  | _, _ => False) X) X
theorem walk_rg {M : Ad} {F : Hp} {lo hi : Int} : WalkT X.K T M F (Itr lo (hi - lo).toNat) (rgD lo hi) := by
  refine ⟨⟨fun _ => True, YFn fun i => .int (lo + i), ?_, fun _ _ => trivial, fun i H x H' M' hi' e m _ y => ?_⟩⟩
  · have : (rgD lo hi).length = (hi - lo).toNat := by unfold rgD; rw [List.length_map, List.length_range]
    rw [this]
    exact walk_range
  · obtain ⟨rfl, rfl⟩ := y
    refine ⟨ExtN.refl _, id, _, ?_, .int _⟩
    unfold rgD at hi' ⊢
    rw [List.length_map, List.length_range] at hi'
    rw [List.getElem?_map, List.getElem?_range hi']
    rfl
theorem rgD_len (lo hi : Int) : (rgD lo hi).length = (hi - lo).toNat := by unfold rgD; rw [List.length_map, List.length_range]
theorem ei_rg1 {w : W} (hg : Gl X "range") (hm : X.mg "range" = none) (ha : PE X a (lift (pm X T) E w)) (hs : starEach [a] X.env = (false, eval a X.env) :: starEach [] X.env := by rfl) (hs' : starEach [a] X.env = [(false, eval a X.env)] := by rfl) :
    PI X tg (.Call (.Name "range" p) [a] [] pos) (liftI (pm X T) E (wIr1 w)) := by
  refine PIimp (pi_range1 hg hm (pa_cons ha pa_nil hs) hs') fun σ H R ⟨H0, M0, M, ρ, XW, Q3, re, xo, q, k⟩ => ?_
  refine ⟨H0, M0, M, ρ, XW, _, re, xo, q, fun r v H1 qr e1 t1 rr => ?_⟩
  obtain ⟨x, hx, qx⟩ := rr.weak qr
  cases x with
  | int n =>
    obtain ⟨hn, qx⟩ := qx
    cases hx.int
    refine ⟨n, rfl, by omega, by omega, k false _ _ H1 qx e1 t1 (by rw [rgD_len, sizeLine_eq]; omega) fun F _ _ => ?_⟩
    have := walk_rg (X := X) (T := T) (M := M) (F := F) (lo := 0) (hi := n)
    rw [Int.sub_zero] at this
    exact this
  | _ => exact qx.elim
theorem ei_rg2 {wa wb : W} (hg : Gl X "range") (hm : X.mg "range" = none) (ha : PE X a (lift (pm X T) E wa)) (hb : PE X b (lift (pm X T) E wb)) (hs : starEach [a, b] X.env = (false, eval a X.env) :: starEach [b] X.env := by rfl) (hs2 : starEach [b] X.env = (false, eval b X.env) :: starEach [] X.env := by rfl)
    (hs' : starEach [a, b] X.env = [(false, eval a X.env), (false, eval b X.env)] := by rfl) (hs2' : starEach [b] X.env = [(false, eval b X.env)] := by rfl) :
    PI X tg (.Call (.Name "range" p) [a, b] [] pos) (liftI (pm X T) E (wIr2 wa wb)) := by
  refine PIimp (pi_range2 hg hm (pa_cons ha (pa_cons hb pa_nil hs2) hs) hs' hs2') fun σ H R ⟨H0, M0, M, ρ, XW, Q3, re, xo, q, k⟩ => ?_
  refine ⟨H0, M0, M, ρ, XW, _, re, xo, q, fun r v H1 qr e1 t1 rr => ?_⟩
  obtain ⟨x, hx, qx⟩ := rr.weak qr
  refine ⟨H0, M0, M, ρ, XW, _, re.grow e1 t1, xo.grow e1, qx, fun s u H2 qs e2 t2 rs => ?_⟩
  obtain ⟨y, hy, qy⟩ := rs.weak qs
  split at qy
  · obtain ⟨⟨h1, h2, h3, h4⟩, qy⟩ := qy
    cases hx.int
    cases hy.int
    refine ⟨_, _, rfl, ⟨by omega, by omega, by omega, by omega⟩, k false _ _ H2 qy (e1.trans e2) t2 (by rw [rgD_len, sizeLine_eq]; omega) fun F _ _ => walk_rg⟩
  · exact qy.elim
end

/-! ### comprehensions -/
def wipe3 (ρ : Env3) : List Nat → Env3
  | [] => ρ
  | v :: vs => (wipe3 ρ vs).set v none
theorem RE.wipe {P : Pm} {H0 H : Hp} {M0 M : Ad} {σ : St} {ρ : Env3} (r : RE P H0 M0 M H σ ρ) : ∀ vs : List Nat, RE P H0 M0 M H (wipe σ vs) (wipe3 ρ vs)
  | [] => r
  | v :: vs => (RE.wipe r vs).unset v none
theorem RE.addD {P : Pm} {H0 H H' : Hp} {M0 M : Ad} {σ : St} {ρ : Env3} {D : Addr} (r : RE P H0 M0 M H σ ρ) (o : Off H D) (e : ExtN H H') (t : Tabs P.T H') (n : ¬ Off H' D) :
    RE P H0 M0 (fun b => M b ∨ b = D) H' σ ρ where
  ext := r.ext.trans e
  tabs := t
  m0 := fun a m => .inl (r.m0 a m)
  mdom := fun a m => by
    rcases m with m | rfl
    · exact fun z => r.mdom a m (z.back e)
    · exact n
  mown := fun a m => by
    rcases m with m | rfl
    · exact r.mown a m
    · exact .inr (o.back r.ext)
  m0dom := r.m0dom
  slot := fun i y q => by
    obtain ⟨w, h1, h2⟩ := r.slot i y q
    refine ⟨w, h1, ?_⟩
    cases y with
    | d x => exact DM.fm (.of e) (DM.more o h2)
    | own ys =>
      obtain ⟨a, ws, e1, m, e4, e5⟩ := h2
      exact ⟨a, ws, e1, .inl m, e _ _ e4 (fun ps q => by cases q), DMs.fm (.of e) (DMs.more o e5)⟩
    | fr ys => exact False.elim h2
    | hand L =>
      obtain ⟨a, e1, h2⟩ := h2
      exact ⟨a, e1, (h2.more o).fm (.of e)⟩
    | scr ns =>
      obtain ⟨a, e1, h2⟩ := h2
      exact ⟨a, e1, (h2.more o).fm (.of e)⟩
    | adr b => exact h2
  ownf := r.ownf
  ownd := r.ownd
  len := r.len
theorem wipe_at {σ : St} {i : Nat} : ∀ {vs : List Nat}, i ∈ vs → i < σ.length → (wipe σ vs)[i]? = some none
  | [], h, _ => by cases h
  | v :: vs, h, hl => by
    show ((wipe σ vs).set v none)[i]? = some none
    by_cases e : v = i
    · subst e
      rw [List.getElem?_set_self (by rw [wipe_length]; exact hl)]
    · rw [List.getElem?_set_ne e]
      rcases List.mem_cons.mp h with z | z
      · exact absurd z.symm e
      · exact wipe_at z hl
theorem wipe_wipe {σ : St} {vs : List Nat} : wipe (wipe σ vs) vs = wipe σ vs := by
  apply List.ext_getElem?
  intro i
  by_cases h : i ∈ vs
  · by_cases hl : i < σ.length
    · rw [wipe_at h (by rw [wipe_length]; exact hl), wipe_at h hl]
    · rw [List.getElem?_eq_none (by rw [wipe_length, wipe_length]; omega), List.getElem?_eq_none (by rw [wipe_length]; omega)]
  · rw [wipe_out h]
/-- the items of the list that a comprehension makes: item by item, tested, made -/
def lcL (tg : Tg) (tt : WB) (te : W) (ρ : Env3) (Q : List PyData → Prop) : List PyData → List PyData → Prop
  | [], acc => Q acc
  | x :: xs, acc => tgW tg x ρ fun ρ' => tt ρ' (fun b => if b = true then te ρ' (fun r => r.st fun y => lcL tg tt te ρ Q xs (acc ++ [y])) noX else lcL tg tt te ρ Q xs acc) noX
def wLc (it : WI) (tg : Tg) (tt : WB) (te : W) (vs : List Nat) : W := fun ρ Q X => it ρ (fun _ xs => lcL tg tt te (wipe3 ρ vs) (fun ys => Q (.fr ys)) xs []) X
def wYes : WB := fun _ Q _ => Q true
section
variable {X : Cx} {T : List (Addr × Str)} {E : XK}
theorem eb_yes : PTs X [] (liftB (pm X T) E wYes) := ⟨fun pins s σ H Q I ⟨H0, M0, M, ρ, XW, Q3, re, xo, q, k⟩ => pts_nil.run pins s σ H Q I (k true H q (ExtN.refl H) re.tabs)⟩
theorem lc_lift {it : WI} {tg : Tg} {tt : WB} {te : W} {vs : List Nat} (hv : ∀ i ∈ tg.ix, i ∈ vs) {σ : St} {H : Hp} {Q : VK} (h : lift (pm X T) E (wLc it tg tt te vs) σ H Q) :
    tLc (liftI (pm X T) E it) (tgG X.K tg) (liftB (pm X T) E0 tt) (lift (pm X T) E0 te) vs σ H Q := by
  obtain ⟨H0, M0, M, ρ, XW, Q3, re, xo, q, k⟩ := h
  refine ⟨H0, M0, M, ρ, XW, _, re, xo, q, fun wk xs J H1 qx e1 t1 hlen hw D hD => ?_⟩
  obtain ⟨G, Y, walk, hG, hY⟩ := (hw H1 (fun _ => Fm.refl) (fun _ => rfl)).ex
  have offD : Off H1 D := .of_none hD
  have nD : ¬ M D := notM_new re.mdom e1 hD
  -- the heap at a turn: all of H1, and the list so far at D
  let Pv : Nat → Hp → Prop := fun i H' => ExtN H1 H' ∧ Tabs T H' ∧ ∃ acc ys, H' D = some (.lst acc) ∧ acc.length ≤ i ∧ DMs X.K (fun b => M b ∨ b = D) H' acc ys ∧ lcL tg tt te (wipe3 ρ vs) (fun ys => Q3 (.fr ys)) (xs.drop i) ys
  refine lc_it walk Pv ⟨ext_new hD, tabs_new t1 hD, [], [], upd_same, Nat.le_refl _, .nil, qx⟩ (fun i H' _ p => hG H' p.1) ?_ ?_
  · rintro i x H2 H3 hi ⟨e2, t2, acc, ys, hacc, hal, hys, ql⟩ y
    have hM2 : ∀ a, (M a ∨ a = D) → ¬ Off H2 a := fun a m => by
      rcases m with m | rfl
      · exact fun z => re.mdom a m (z.back (e1.trans e2))
      · intro z
        obtain ⟨ps, w⟩ := z _ hacc
        cases w
    obtain ⟨e3, t3, d, hd, dd⟩ := hY i H2 x H3 (fun b => M b ∨ b = D) hi e2 (fun a m => m.imp id fun z => by rw [z]; exact offD) hM2 y
    have hx : xs.drop i = d :: xs.drop (i + 1) := by
      obtain ⟨h1, h2⟩ := List.getElem?_eq_some_iff.mp hd
      rw [← h2]
      exact List.drop_eq_getElem_cons h1
    rw [hx] at ql
    -- the slots of the block, told of the heap without D
    have D3 : H3 D = some (.lst acc) := e3 _ _ hacc (fun ps q => by cases q)
    have reD : RE (pm X T) H0 M0 (fun b => M b ∨ b = D) H3 (L2.wipe σ vs) (wipe3 ρ vs) :=
      (((re.grow e1 t1).addD offD (e2.trans e3) (t3 t2) (fun z => by
        obtain ⟨ps, w⟩ := z _ D3
        cases w))).wipe vs
    have upM : ∀ {H5 : Hp} {v : V}, H5 D = some (.lst acc) → Fm (fun b => M b ∨ b = D) H5 (upd H5 D (.lst (acc ++ [v]))) := fun {H5 v} hD5 c u z nm nt => by
      rw [upd_ne (show c ≠ D from fun w => nm (.inr w))]
      exact z
    have upE : ∀ {H5 : Hp} {v : V}, ExtN H1 H5 → ExtN H1 (upd H5 D (.lst (acc ++ [v]))) := fun {H5 v} e c u z nt => by
      rw [upd_ne (show c ≠ D from fun w => by
        subst w
        obtain ⟨ps, w⟩ := offD _ z
        exact nt ps w)]
      exact e c u z nt
    refine tg_ok tg reD dd ql fun σ2 ρ2 q2 re2 hw2 => ⟨by rw [hw2 vs hv, wipe_wipe], ?_⟩
    refine ⟨H0, M0, _, ρ2, noX, _, re2, XOk.no, q2, fun b H4 qb e4 t4 => ?_⟩
    have D4 : H4 D = some (.lst acc) := e4 _ _ D3 (fun ps q => by cases q)
    cases b with
    | false => exact ⟨((e2.trans e3).trans e4), t4, acc, ys, D4, by omega, DMs.fm (.of (e3.trans e4)) hys, qb⟩
    | true =>
      refine ⟨H0, M0, _, ρ2, noX, _, re2.grow e4 t4, XOk.no, qb, fun r v H5 qr e5 t5 rr => ?_⟩
      obtain ⟨z, hz, qz⟩ := rr.strong (re2.grow e4 t4).mdom qr
      have D5 : H5 D = some (.lst acc) := e5 _ _ D4 (fun ps q => by cases q)
      refine ⟨acc, D5, by omega, upE (((e2.trans e3).trans e4).trans e5), tabs_upd t5 D5, acc ++ [v], ys ++ [z], upd_same, by rw [List.length_append]; show acc.length + 1 ≤ i + 1; omega, ?_, qz⟩
      exact DMs.fm (upM D5) ((DMs.fm (.of ((e3.trans e4).trans e5)) hys).append (.cons hz .nil))
  · rintro H2 ⟨e2, t2, acc, ys, hacc, hal, hys, ql⟩
    rw [List.drop_length] at ql
    exact k _ _ H2 ql (e1.trans e2) t2 ⟨D, acc, rfl, offD.back e1, hacc, hys⟩
end
end T3
set_option linter.all false
set_option maxRecDepth 100000
set_option maxHeartbeats 2000000
set_option Elab.async false
/-! T7: comprehensions as expressions, zip and enumerate, for and while, statements. -/
namespace T3
open L2 LamX PySem PyProof.Rows PySem.Spec

section
variable {X : Cx} {T : List (Addr × Str)} {E : XK} {e a b : Expr} {pos p : Pos} {tg : Expr}
/-- [elt for tg in iter if ..] -/
theorem ev_lc {elt iter : Expr} {ifs : List Expr} {scope : Scope} {own : List (Str × Nat)} {it : WI} {g : Tg} {tt : WB} {te : W} (hc : X.calm = true) (hN : X.N.Nodup) (hi : PI X tg iter (liftI (pm X T) E it)) (ok : BlkOk X.N X.env.scope scope own)
    (hv : ∀ i ∈ g.ix, i ∈ own.map (·.2))
    (hg : ∀ (s : Shared) (H : Hp) (C : Addr) (cl : List (Str × Addr)) (fp : List Addr), PG (X.blk s H scope (compEnvC scope cl C X.env) fp) tg (tgG X.K g))
    (ht : ∀ (s : Shared) (H : Hp) (C : Addr) (cl : List (Str × Addr)) (fp : List Addr), PTs (X.blk s H scope (compEnvC scope cl C X.env) fp) ifs (liftB (pm X T) E0 tt))
    (he : ∀ (s : Shared) (H : Hp) (C : Addr) (cl : List (Str × Addr)) (fp : List Addr), PE (X.blk s H scope (compEnvC scope cl C X.env) fp) elt (lift (pm X T) E0 te)) (hs : ∀ x, foldedSetIterable iter X.env x = pure x := by intro _; rfl) :
    PE X (.ListComp elt [⟨tg, iter, ifs, 0⟩] scope pos) (lift (pm X T) E (wLc it g tt te (own.map (·.2)))) :=
  PEimp (pe_lc hc hN hi ok hg ht he hs) fun _ _ _ h => lc_lift hv h
/-! ### statements that store -/
def R.kp : R → (R → Prop) → Prop := R.ar
/-- x = e, e a tree (the hand, the script) -/
def wSet (i : Nat) (w : W) : WS := fun D ρ X => w ρ (fun r => r.ar fun z => D.nx (ρ.set i (some z))) X
/-- x = e, e a new list that x alone holds -/
def wSetO (i : Nat) (w : W) : WS := fun D ρ X => w ρ (fun r => match r with | .fr xs => D.nx (ρ.set i (some (.own xs))) | _ => False) X
theorem asg_lift {i : Nat} {w : W} {D : Ends} {σ : St} {H : Hp} (h : liftS (pm X T) E (wSet i w) D σ H) : tAsg (lift (pm X T) E w) (gName i) D σ H := by
  obtain ⟨H0, M0, M, ρ, XW, D3, re, q, k⟩ := h
  refine ⟨H0, M0, M, ρ, XW, _, re, k.xo re, q, fun r v H1 qr e1 t1 rr => ?_⟩
  obtain ⟨z, hz, qz⟩ := rr.arg re.mdom qr
  exact k.nx _ M H1 _ qz ((re.grow e1 t1).set i hz)
theorem asgO_lift {i : Nat} {w : W} {D : Ends} {σ : St} {H : Hp} (h : liftS (pm X T) E (wSetO i w) D σ H) : tAsg (lift (pm X T) E w) (gName i) D σ H := by
  obtain ⟨H0, M0, M, ρ, XW, D3, re, q, k⟩ := h
  refine ⟨H0, M0, M, ρ, XW, _, re, k.xo re, q, fun r v H1 qr e1 t1 rr => ?_⟩
  cases r with
  | fr xs =>
    obtain ⟨M', re'⟩ := re.setO e1 t1 i rr
    exact k.nx _ M' H1 _ qr re'
  | _ => exact qr.elim
theorem es_set {i : Nat} {x : Str} {w : W} {pos' : Pos} (hN : X.N.Nodup) (hi : X.N[i]? = some x) (hx : Loc X.env.scope x) (he : PE X e (lift (pm X T) E w)) (hs : swapsWith e (some (.Name x pos')) pos.line X.env = pure false := by rfl) (hf : X.fn x = true ∨ X.env.scope.names.lookup x = some .local := by first | exact .inl rfl | exact .inr rfl | assumption) :
    PS X (.Assign [.Name x pos'] e pos) (liftS (pm X T) E (wSet i w)) := PSimp (ps_set hN hi hx he hs hf) fun _ _ _ h => asg_lift h
theorem es_setO {i : Nat} {x : Str} {w : W} {pos' : Pos} (hN : X.N.Nodup) (hi : X.N[i]? = some x) (hx : Loc X.env.scope x) (he : PE X e (lift (pm X T) E w)) (hs : swapsWith e (some (.Name x pos')) pos.line X.env = pure false := by rfl) (hf : X.fn x = true ∨ X.env.scope.names.lookup x = some .local := by first | exact .inl rfl | exact .inr rfl | assumption) :
    PS X (.Assign [.Name x pos'] e pos) (liftS (pm X T) E (wSetO i w)) := PSimp (ps_set hN hi hx he hs hf) fun _ _ _ h => asgO_lift h
/-- name = [..] on one line -/
theorem es_setLc {i : Nat} {y : Str} {py : Pos} {elt iter : Expr} {ifs : List Expr} {scope : Scope} {own : List (Str × Nat)} {spos : Pos} {it : WI} {g : Tg} {tt : WB} {te : W} (hc : X.calm = true) (hN : X.N.Nodup) (hy : X.N[i]? = some y) (hyl : X.env.scope.names.lookup y = some .local)
    (hsw : swapsWith (.ListComp elt [⟨tg, iter, ifs, 0⟩] scope pos) (some (.Name y py)) spos.line X.env = pure true) (hi : PI X tg iter (liftI (pm X T) E it)) (ok : BlkOk X.N X.env.scope scope own) (hv : ∀ i ∈ g.ix, i ∈ own.map (·.2))
    (hg : ∀ (s : Shared) (H : Hp) (C : Addr) (cl : List (Str × Addr)) (fp : List Addr), PG (X.blk s H scope (compEnvC scope cl C X.env) fp) tg (tgG X.K g))
    (ht : ∀ (s : Shared) (H : Hp) (C : Addr) (cl : List (Str × Addr)) (fp : List Addr), PTs (X.blk s H scope (compEnvC scope cl C X.env) fp) ifs (liftB (pm X T) E0 tt))
    (he : ∀ (s : Shared) (H : Hp) (C : Addr) (cl : List (Str × Addr)) (fp : List Addr), PE (X.blk s H scope (compEnvC scope cl C X.env) fp) elt (lift (pm X T) E0 te)) (hs : ∀ x, foldedSetIterable iter X.env x = pure x := by intro _; rfl) :
    PS X (.Assign [.Name y py] (.ListComp elt [⟨tg, iter, ifs, 0⟩] scope pos) spos) (liftS (pm X T) E (wSet i (wLc it g tt te (own.map (·.2))))) :=
  PSimp (ps_setLc hc hN hy hyl hsw hi ok hg ht he hs) fun D σ H h => by
    have h' := asg_lift h
    exact lc_lift hv h'
theorem es_setLcO {i : Nat} {y : Str} {py : Pos} {elt iter : Expr} {ifs : List Expr} {scope : Scope} {own : List (Str × Nat)} {spos : Pos} {it : WI} {g : Tg} {tt : WB} {te : W} (hc : X.calm = true) (hN : X.N.Nodup) (hy : X.N[i]? = some y) (hyl : X.env.scope.names.lookup y = some .local)
    (hsw : swapsWith (.ListComp elt [⟨tg, iter, ifs, 0⟩] scope pos) (some (.Name y py)) spos.line X.env = pure true) (hi : PI X tg iter (liftI (pm X T) E it)) (ok : BlkOk X.N X.env.scope scope own) (hv : ∀ i ∈ g.ix, i ∈ own.map (·.2))
    (hg : ∀ (s : Shared) (H : Hp) (C : Addr) (cl : List (Str × Addr)) (fp : List Addr), PG (X.blk s H scope (compEnvC scope cl C X.env) fp) tg (tgG X.K g))
    (ht : ∀ (s : Shared) (H : Hp) (C : Addr) (cl : List (Str × Addr)) (fp : List Addr), PTs (X.blk s H scope (compEnvC scope cl C X.env) fp) ifs (liftB (pm X T) E0 tt))
    (he : ∀ (s : Shared) (H : Hp) (C : Addr) (cl : List (Str × Addr)) (fp : List Addr), PE (X.blk s H scope (compEnvC scope cl C X.env) fp) elt (lift (pm X T) E0 te)) (hs : ∀ x, foldedSetIterable iter X.env x = pure x := by intro _; rfl) :
    PS X (.Assign [.Name y py] (.ListComp elt [⟨tg, iter, ifs, 0⟩] scope pos) spos) (liftS (pm X T) E (wSetO i (wLc it g tt te (own.map (·.2))))) :=
  PSimp (ps_setLc hc hN hy hyl hsw hi ok hg ht he hs) fun D σ H h => by
    have h' := asgO_lift h
    exact lc_lift hv h'
/-- a, b, .. = a tuple -/
def wTg (g : Tg) (w : W) : WS := fun D ρ X => w ρ (fun r => r.st fun x => tgW g x ρ D.nx) X
theorem es_tg {g : Tg} {w : W} (he : PE X e (lift (pm X T) E w)) (hg : PG X tg (tgG X.K g)) (hs : swapsWithSole [tg] e pos.line X.env = pure false := by rfl) (hw : swappedStores [tg] e X.env = pure none := by rfl)
    (h1 : (assignEach [tg] X.env).map (·.2) = [assign tg X.env] := by rfl) : PS X (.Assign [tg] e pos) (liftS (pm X T) E (wTg g w)) := by
  refine PSimp (ps_asg he hg hs hw h1) fun D σ H ⟨H0, M0, M, ρ, XW, D3, re, q, k⟩ => ?_
  refine ⟨H0, M0, M, ρ, XW, _, re, k.xo re, q, fun r v H1 qr e1 t1 rr => ?_⟩
  obtain ⟨x, hx, qx⟩ := rr.strong re.mdom qr
  exact tg_ok g (re.grow e1 t1) hx qx fun σ' ρ' q' re' _ => k.nx _ M H1 _ q' re'
/-! ### several values stored at once -/
def R.slot (o : Bool) (r : R) (k : R → Prop) : Prop := if o = true then (match r with | .fr xs => k (.own xs) | _ => False) else r.ar k
abbrev WPs := Env3 → (List R → Prop) → (Exc → Prop) → Prop
def wPnil : WPs := fun _ Q _ => Q []
def wPcons (o : Bool) (w : W) (ws : WPs) : WPs := fun ρ Q X => w ρ (fun r => r.slot o fun z => ws ρ (fun zs => Q (z :: zs)) X) X
/-- values that wait to be stored; ps: where the new lists among them stand -/
inductive Pend (K : PySem.W.Frag) (M : Ad) (H Hb : Hp) : List V → List R → List Addr → Prop
  | nil : Pend K M H Hb [] [] []
  | own {p : Addr} {vs : List V} {xs : List PyData} {us : List V} {zs : List R} {ps : List Addr} : M p → Off Hb p → H p = some (.lst vs) → DMs K M H vs xs → p ∉ ps → Pend K M H Hb us zs ps → Pend K M H Hb (.ref p :: us) (.own xs :: zs) (p :: ps)
  | oth {v : V} {z : R} {us : List V} {zs : List R} {ps : List Addr} : RA K M H v z → Pend K M H Hb us zs ps → Pend K M H Hb (v :: us) (z :: zs) ps
def liftPs (P : Pm) (E : XK) (w : WPs) : TA := fun σ H Q => ∃ H0 M0 M ρ XW Q3, RE P H0 M0 M H σ ρ ∧ XOk P E XW M H ∧ w ρ Q3 XW ∧
  ∀ zs vs H' M' ps, Q3 zs → RE P H0 M0 M' H' σ ρ → ExtN H H' → (∀ a, M a → M' a) → (∀ a, M' a → M a ∨ Off H a) → Pend P.K M' H' H vs zs ps → Q vs H'
theorem ep_nil : PA X [] (liftPs (pm X T) E wPnil) := PAimp pa_nil fun σ H Q ⟨H0, M0, M, ρ, XW, Q3, re, xo, q, k⟩ =>
  k [] [] H M [] q re (ExtN.refl H) (fun _ m => m) (fun _ m => .inl m) .nil
theorem Pend.back {K : PySem.W.Frag} {M : Ad} {H Hb Ha : Hp} (e : ExtN Ha Hb) : ∀ {vs : List V} {zs : List R} {ps : List Addr}, Pend K M H Hb vs zs ps → Pend K M H Ha vs zs ps
  | _, _, _, .nil => .nil
  | _, _, _, .own m o h d n r => .own m (o.back e) h d n (Pend.back e r)
  | _, _, _, .oth h r => .oth h (Pend.back e r)
theorem Pend.offs {K : PySem.W.Frag} {M : Ad} {H Hb : Hp} : ∀ {vs : List V} {zs : List R} {ps : List Addr}, Pend K M H Hb vs zs ps → ∀ p ∈ ps, Off Hb p
  | _, _, _, .nil, p, h => by cases h
  | _, _, _, .own m o _ _ _ r, p, h => by
    rcases List.mem_cons.mp h with z | z
    · rw [z]; exact o
    · exact Pend.offs r p z
  | _, _, _, .oth _ r, p, h => Pend.offs r p h
theorem RA.off {K : PySem.W.Frag} {M M' : Ad} {F H : Hp} {v : V} {z : R} (h : RA K M F v z) (e : ExtN F H) (m : ∀ a, M' a → M a ∨ Off F a) : RA K M' H v z := by
  cases z with
  | d x => exact DM.off h e m
  | own xs => exact h
  | fr xs => exact h
  | hand L =>
    obtain ⟨a, e1, c, ns, m1, m2, h1, h2⟩ := h
    exact ⟨a, e1, c, ns, fun z => (m _ z).elim m1 fun o => o.rd (.inl h1) (fun ps q => by cases q) rfl, fun z => (m _ z).elim m2 fun o => o.rd (.inl h2) (fun ps q => by cases q) rfl, e _ _ h1 (fun ps q => by cases q), e _ _ h2 (fun ps q => by cases q)⟩
  | scr ns =>
    obtain ⟨a, e1, h⟩ := h
    exact ⟨a, e1, h.imp (fun ⟨z, o, w⟩ => ⟨fun z' => (m _ z').elim z fun of => of.rd (.inl w) (fun ps q => by cases q) rfl, o, e _ _ w (fun ps q => by cases q)⟩) id⟩
  | adr b => exact h
theorem ep_cons {o : Bool} {es : List Expr} {w : W} {ws : WPs} (he : PE X e (lift (pm X T) E w)) (hr : PA X es (liftPs (pm X T) E ws)) (hs : starEach (e :: es) X.env = (false, eval e X.env) :: starEach es X.env := by rfl) :
    PA X (e :: es) (liftPs (pm X T) E (wPcons o w ws)) := by
  refine PAimp (pa_cons he hr hs) fun σ H Q ⟨H0, M0, M, ρ, XW, Q3, re, xo, q, k⟩ => ?_
  refine ⟨H0, M0, M, ρ, XW, _, re, xo, q, fun r v H1 qr e1 t1 rr => ?_⟩
  unfold R.slot at qr
  split at qr
  · cases r with
    | fr xs =>
      obtain ⟨p, vs, rfl, of, hp, hx⟩ := rr
      have re1 := re.addD of e1 t1 (fun z => by
        obtain ⟨ps, w⟩ := z _ hp
        cases w)
      refine ⟨H0, M0, _, ρ, XW, _, re1, (xo.grow e1).sub (fun b z => .inl z), qr, fun zs us H2 M2 ps q2 re2 e2 m1 m2 pd => ?_⟩
      refine k (.own xs :: zs) (.ref p :: us) H2 M2 (p :: ps) q2 re2 (e1.trans e2) (fun a m => m1 a (.inl m)) (fun a m => ?_) (.own (m1 p (.inr rfl)) of (e2 _ _ hp (fun ps q => by cases q)) (DMs.off hx e2 m2) (fun z => ?_) (pd.back e1))
      · rcases m2 a m with (z | z) | z
        · exact .inl z
        · rw [z]; exact .inr of
        · exact .inr (z.back e1)
      · obtain ⟨qs, w⟩ := pd.offs p z _ hp
        cases w
    | _ => exact qr.elim
  · obtain ⟨z, hz, qz⟩ := rr.arg re.mdom qr
    refine ⟨H0, M0, M, ρ, XW, _, re.grow e1 t1, xo.grow e1, qz, fun zs us H2 M2 ps q2 re2 e2 m1 m2 pd => ?_⟩
    exact k (z :: zs) (v :: us) H2 M2 ps q2 re2 (e1.trans e2) m1 (fun a m => (m2 a m).imp id fun w => w.back e1) (.oth (hz.off e2 m2) (pd.back e1))
/-- a list that stands already becomes a slot's own -/
theorem RE.setOwn {P : Pm} {H0 H : Hp} {M0 M : Ad} {σ : St} {ρ : Env3} {p : Addr} {vs : List V} {xs : List PyData} (r : RE P H0 M0 M H σ ρ) (i : Nat) (m : M p) (o : Off H0 p) (hp : H p = some (.lst vs)) (hx : DMs P.K M H vs xs)
    (n : ∀ (j : Nat) (ys : List PyData), ρ[j]? = some (some (.own ys)) → σ[j]? ≠ some (some (.ref p))) : RE P H0 M0 M H (σ.set i (some (.ref p))) (ρ.set i (some (.own xs))) := by
  refine ⟨r.ext, r.tabs, r.m0, r.mdom, r.mown, r.m0dom, fun j y q => ?_, fun j ys a q hσ => ?_, fun j k ys zs a hne q1 q2 hσ => ?_, by rw [List.length_set, List.length_set]; exact r.len⟩
  · rcases set_get q with ⟨e3, e2, hi⟩ | ⟨ne, q⟩
    · subst e3
      cases e2
      exact ⟨.ref p, by rw [List.getElem?_set_self (by rw [← r.len]; exact hi)], p, vs, rfl, m, hp, hx⟩
    · obtain ⟨w, h1, h2⟩ := r.slot j y q
      exact ⟨w, by rw [List.getElem?_set_ne ne]; exact h1, h2⟩
  · rcases set_get q with ⟨e3, e2, hi⟩ | ⟨ne, q⟩
    · subst e3
      rw [List.getElem?_set_self (by rw [← r.len]; exact hi)] at hσ
      cases hσ
      exact o
    · rw [List.getElem?_set_ne ne] at hσ
      exact r.ownf j ys a q hσ
  · rcases set_get q1 with ⟨e3, e2, hi⟩ | ⟨ne1, q1⟩
    · subst e3
      rw [List.getElem?_set_self (by rw [← r.len]; exact hi)] at hσ
      cases hσ
      rcases set_get q2 with ⟨e4, _, _⟩ | ⟨ne2, q2⟩
      · exact absurd e4 hne
      · rw [List.getElem?_set_ne ne2]
        exact n k zs q2
    · rw [List.getElem?_set_ne ne1] at hσ
      rcases set_get q2 with ⟨e4, e2, hi⟩ | ⟨ne2, q2⟩
      · subst e4
        rw [List.getElem?_set_self (by rw [← r.len]; exact hi)]
        intro z
        cases z
        exact n j ys q1 hσ
      · rw [List.getElem?_set_ne ne2]
        exact r.ownd j k ys zs a hne q1 q2 hσ
def setsV : List Nat → List V → St → St
  | i :: is, v :: vs, σ => setsV is vs (σ.set i (some v))
  | _, _, σ => σ
def setsR : List Nat → List R → Env3 → Env3
  | i :: is, z :: zs, ρ => setsR is zs (ρ.set i (some z))
  | _, _, ρ => ρ
theorem pend_store {P : Pm} {H0 H Hb : Hp} {M0 M : Ad} : ∀ {vs : List V} {zs : List R} {ps : List Addr} (is : List Nat) {σ : St} {ρ : Env3}, RE P H0 M0 M H σ ρ → Pend P.K M H Hb vs zs ps → (∀ p ∈ ps, Off H0 p) →
    (∀ p ∈ ps, ∀ (j : Nat) (ys : List PyData), ρ[j]? = some (some (.own ys)) → σ[j]? ≠ some (some (.ref p))) → RE P H0 M0 M H (setsV is vs σ) (setsR is zs ρ)
  | _, _, _, [], σ, ρ, re, _, _, _ => by unfold setsV setsR; exact re
  | _, _, _, _ :: _, σ, ρ, re, .nil, _, _ => by unfold setsV setsR; exact re
  | _, _, _, i :: is, σ, ρ, re, .own (p := p) (xs := xs) m o hp hx np r, h0, hn => by
    have re1 := re.setOwn i m (h0 p List.mem_cons_self) hp hx (hn p List.mem_cons_self)
    refine pend_store is re1 r (fun q hq => h0 q (List.mem_cons_of_mem _ hq)) fun q hq j ys e => ?_
    rcases set_get e with ⟨e3, e2, hi⟩ | ⟨ne, e⟩
    · subst e3
      rw [List.getElem?_set_self (by rw [← re.len]; exact hi)]
      intro z
      cases z
      exact np hq
    · rw [List.getElem?_set_ne ne]
      exact hn q (List.mem_cons_of_mem _ hq) j ys e
  | _, _, _, i :: is, σ, ρ, re, .oth (z := z) h r, h0, hn => by
    refine pend_store is (re.set i h) r h0 fun q hq j ys e => ?_
    rcases set_get e with ⟨e3, e2, hi⟩ | ⟨ne, e⟩
    · cases e2
      exact False.elim h
    · rw [List.getElem?_set_ne ne]
      exact hn q hq j ys e
/-- a, b, .. = x, y, .. -/
def wPar (is : List Nat) (ws : WPs) : WS := fun D ρ X => ws ρ (fun zs => zs.length = is.length ∧ D.nx (setsR is zs ρ)) X
theorem Pend.length {K : PySem.W.Frag} {M : Ad} {H Hb : Hp} : ∀ {vs : List V} {zs : List R} {ps : List Addr}, Pend K M H Hb vs zs ps → vs.length = zs.length
  | _, _, _, .nil => rfl
  | _, _, _, .own _ _ _ _ _ r => by rw [List.length_cons, List.length_cons, Pend.length r]
  | _, _, _, .oth _ r => by rw [List.length_cons, List.length_cons, Pend.length r]
theorem par_lift {is : List Nat} {ws : WPs} {D : Ends} {σ : St} {H : Hp} {Q : List V → Hp → Prop} (h : liftS (pm X T) E (wPar is ws) D σ H) (hQ : ∀ vs H', vs.length = is.length → D.nx (setsV is vs σ) H' → Q vs H') : liftPs (pm X T) E ws σ H Q := by
  obtain ⟨H0, M0, M, ρ, XW, D3, re, q, k⟩ := h
  refine ⟨H0, M0, M, ρ, XW, _, re, k.xo re, q, fun zs vs H' M' ps ⟨hl, q2⟩ re2 e2 m1 m2 pd => hQ vs H' (by rw [pd.length]; exact hl) (k.nx _ M' H' _ q2 (pend_store is re2 pd (fun p hp => (pd.offs p hp).back re.ext) fun p hp j ys e z => ?_))⟩
  obtain ⟨w, h1, b, us, e1, m, _⟩ := re.slot j _ e
  rw [z] at h1
  cases h1
  cases e1
  exact re.mdom _ m (pd.offs _ hp)
/-- two plain local names -/
theorem es_par {i j : Nat} {x y : Str} {ws : WPs} {px py pt : Pos} {kt k2 pt2} (hc : X.calm = true) (hN : X.N.Nodup) (hi : X.N[i]? = some x) (hj : X.N[j]? = some y) (hij : i ≠ j)
    (hx : X.env.scope.names.lookup x = some .local) (hy : X.env.scope.names.lookup y = some .local) (ha : PA X [a, b] (liftPs (pm X T) E ws))
    (hw : swappedStores [.Tuple [.Name x px, .Name y py] kt pt] (.Tuple [a, b] k2 pt2) X.env = pure (some [x, y]))
    (hs : swapsWithSole [.Tuple [.Name x px, .Name y py] kt pt] (.Tuple [a, b] k2 pt2) pos.line X.env = pure false := by rfl) :
    PS X (.Assign [.Tuple [.Name x px, .Name y py] kt pt] (.Tuple [a, b] k2 pt2) pos) (liftS (pm X T) E (wPar [i, j] ws)) := by
  refine PSimp (ps_par hc hN hi hj hij hx hy ha hw hs) fun D σ H h => ?_
  refine par_lift h fun vs H' hl q => ?_
  match vs, hl with
  | [v, w], _ => exact ⟨v, w, rfl, q⟩
/-- by way of the tuple -/
def gOnes : List Nat → TGs
  | [] => gNil
  | i :: is => gCons (gName i) (gOnes is)
theorem gOnes_ok {Q : St → Hp → Prop} {H : Hp} : ∀ (is : List Nat) (vs : List V) (σ : St), vs.length = is.length → Q (setsV is vs σ) H → gOnes is vs σ H Q
  | [], [], σ, _, q => ⟨rfl, q⟩
  | i :: is, v :: vs, σ, h, q => ⟨v, vs, rfl, gOnes_ok is vs _ (by simpa using h) q⟩
  | [], _ :: _, _, h, _ => by simp at h
  | _ :: _, [], _, h, _ => by simp at h
theorem es_parT {is : List Nat} {es : List Expr} {ws : WPs} {x1} {p2 : Pos} (ha : PA X es (liftPs (pm X T) E ws)) (hg : PG X tg (gTup X.K is.length (gOnes is))) (hn : is.length ≤ sizeLine := by decide) (hs : swapsWithSole [tg] (.Tuple es x1 p2) pos.line X.env = pure false := by rfl)
    (hw : swappedStores [tg] (.Tuple es x1 p2) X.env = pure none := by rfl) (h1 : (assignEach [tg] X.env).map (·.2) = [assign tg X.env] := by rfl) : PS X (.Assign [tg] (.Tuple es x1 p2) pos) (liftS (pm X T) E (wPar is ws)) := by
  refine PSimp (ps_asg (pe_tup ha) hg hs hw h1) fun D σ H h => ?_
  obtain ⟨H0, M0, M, ρ, XW, D3, re, q, k⟩ := h
  refine ⟨H0, M0, M, ρ, XW, _, re, k.xo re, q, fun zs vs H' M' ps ⟨hl, q2⟩ re2 e2 m1 m2 pd => ⟨by rw [pd.length, hl]; exact hn, fun p np => ?_⟩⟩
  have ex := ext_new (o := .tup vs) np
  refine ⟨p, vs, rfl, SqT.of upd_same, by rw [pd.length, hl], gOnes_ok is vs σ (by rw [pd.length, hl]) ?_⟩
  have re3 := pend_store is re2 pd (fun p hp => (pd.offs p hp).back re.ext) (fun p hp j ys e z => by
    obtain ⟨w, h1, b, us, e1, m, _⟩ := re.slot j _ e
    rw [z] at h1
    cases h1
    cases e1
    exact re.mdom _ m (pd.offs _ hp))
  exact k.nx _ M' _ _ q2 (re3.grow ex (tabs_new re3.tabs np))
end
end T3
set_option linter.all false
set_option maxRecDepth 100000
set_option maxHeartbeats 2000000
set_option Elab.async false
/-! T8: blocks, if, for, while, lists changed in place. -/
namespace T3
open L2 LamX PySem PyProof.Rows PySem.Spec

section
variable {X : Cx} {T : List (Addr × Str)} {E : XK} {e a b : Expr} {pos p : Pos} {tg : Expr}
def wNext : WS := fun D ρ _ => D.nx ρ
def wSeq (a b : WS) : WS := fun D ρ X => a ⟨fun ρ' => b D ρ' X, D.rt, D.bk, D.ct⟩ ρ X
def R.no : R → Prop
  | .own _ => False
  | _ => True
def wRet (w : W) : WS := fun D ρ X => w ρ (fun r => r.no ∧ D.rt r) X
/-- return x, x a list of the frame's own -/
def wRetO (i : Nat) : WS := fun D ρ _ => ∃ xs, ρ[i]? = some (some (.own xs)) ∧ D.rt (.fr xs)
def wRetN : WS := fun D _ _ => D.rt (.d .none)
def wIfS (c : WB) (a b : WS) : WS := fun D ρ X => c ρ (fun c => if c = true then a D ρ X else b D ρ X) X
def wBrk : WS := fun D ρ _ => D.bk ρ
def wCnt : WS := fun D ρ _ => D.ct ρ
theorem ess_nil : PSs X [] (liftS (pm X T) E wNext) := PSsimp pss_nil fun D σ H ⟨H0, M0, M, ρ, XW, D3, re, q, k⟩ => k.nx ρ M H σ q re
theorem ess_cons {st : Stmt} {rest : List Stmt} {t u : WS} (h1 : PS X st (liftS (pm X T) E t)) (h2 : PSs X rest (liftS (pm X T) E u)) : PSs X (st :: rest) (liftS (pm X T) E (wSeq t u)) :=
  PSsimp (pss_cons h1 h2) fun D σ H ⟨H0, M0, M, ρ, XW, D3, re, q, k⟩ => ⟨H0, M0, M, ρ, XW, _, re, q, fun ρ' M' H' σ' q' re' => ⟨H0, M0, M', ρ', XW, D3, re', q', k⟩, k.bk, k.ct, k.ex, k.rt⟩
theorem ess_one {st : Stmt} {t : WS} (h1 : PS X st (liftS (pm X T) E t)) : PSs X [st] (liftS (pm X T) E t) := pss_one h1
theorem es_pass : PS X (.Pass pos) (liftS (pm X T) E wNext) := PSimp ps_pass fun D σ H ⟨H0, M0, M, ρ, XW, D3, re, q, k⟩ => k.nx ρ M H σ q re
theorem es_brk : PS X (.Break pos) (liftS (pm X T) E wBrk) := PSimp ps_break fun D σ H ⟨H0, M0, M, ρ, XW, D3, re, q, k⟩ => k.bk ρ M H σ q re
theorem es_cnt : PS X (.Continue pos) (liftS (pm X T) E wCnt) := PSimp ps_continue fun D σ H ⟨H0, M0, M, ρ, XW, D3, re, q, k⟩ => k.ct ρ M H σ q re
/-- what leaves a frame -/
theorem RR.out {P : Pm} {H0 H H' : Hp} {M0 M : Ad} {σ : St} {ρ : Env3} {v : V} {r : R} (re : RE P H0 M0 M H σ ρ) (e1 : ExtN H H') (h : RR P.K M H H' v r) :
    r.no → RR P.K M0 H0 H' v r := fun no => by
  cases r with
  | d x => exact DM.anti re.m0 h
  | own xs => exact no.elim
  | fr xs =>
    obtain ⟨p, vs, e2, o, hp, hx⟩ := h
    exact ⟨p, vs, e2, o.back re.ext, hp, DMs.anti (fun b z => z.imp (re.m0 b) id) hx⟩
  | hand L =>
    obtain ⟨a, e2, h⟩ := h
    exact ⟨a, e2, h.anti re.m0⟩
  | scr ns =>
    obtain ⟨a, e2, h⟩ := h
    exact ⟨a, e2, h.anti re.m0⟩
  | adr b => exact h
theorem es_ret {w : W} (he : PE X e (lift (pm X T) E w)) : PS X (.Return (some e) pos) (liftS (pm X T) E (wRet w)) := by
  refine PSimp (ps_ret he) fun D σ H ⟨H0, M0, M, ρ, XW, D3, re, q, k⟩ => ?_
  exact ⟨H0, M0, M, ρ, XW, _, re, k.xo re, q, fun r v H1 qr e1 t1 rr => k.rt r v H1 qr.2 (re.ext.trans e1) t1 (rr.out re e1 qr.1)⟩
theorem es_retO {i : Nat} (h : PE X e (tVar i)) : PS X (.Return (some e) pos) (liftS (pm X T) E (wRetO i)) := by
  refine PSimp (ps_ret h) fun D σ H ⟨H0, M0, M, ρ, XW, D3, re, ⟨xs, hx, q⟩, k⟩ => ?_
  obtain ⟨v, h1, p, vs, rfl, m, hp, hd⟩ := re.slot i _ hx
  exact ⟨_, h1, k.rt _ _ H q re.ext re.tabs ⟨p, vs, rfl, re.ownf i xs p hx h1, hp, DMs.anti (fun b z => by
    rcases z with z | rfl
    · exact re.m0 b z
    · exact m) hd⟩⟩
theorem es_retN : PS X (.Return none pos) (liftS (pm X T) E wRetN) := PSimp ps_retN fun D σ H ⟨H0, M0, M, ρ, XW, D3, re, q, k⟩ => k.rt (.d .none) .non H q re.ext re.tabs .non
theorem es_if {c : Expr} {sa sb : List Stmt} {wc : WB} {wa wb : WS} (hc : PT X c (liftB (pm X T) E wc)) (ha : PSs X sa (liftS (pm X T) E wa)) (hb : PSs X sb (liftS (pm X T) E wb)) : PS X (.If c sa sb pos) (liftS (pm X T) E (wIfS wc wa wb)) :=
  PSimp (ps_if hc ha hb) fun D σ H ⟨H0, M0, M, ρ, XW, D3, re, q, k⟩ => ⟨H0, M0, M, ρ, XW, _, re, k.xo re, q, fun c H1 qc e1 t1 => by
    cases c with
    | true => exact ⟨H0, M0, M, ρ, XW, D3, re.grow e1 t1, qc, k⟩
    | false => exact ⟨H0, M0, M, ρ, XW, D3, re.grow e1 t1, qc, k⟩⟩
/-- an expression for what it may raise -/
def wDrop (w : W) : WS := fun D ρ X => w ρ (fun _ => D.nx ρ) X
theorem es_drop {w : W} (he : PE X e (lift (pm X T) E w)) (hs : swapsWith e none pos.line X.env = pure false := by rfl) : PS X (.Expr e pos) (liftS (pm X T) E (wDrop w)) :=
  PSimp (ps_expr he hs) fun D σ H ⟨H0, M0, M, ρ, XW, D3, re, q, k⟩ => ⟨H0, M0, M, ρ, XW, _, re, k.xo re, q, fun r v H1 qr e1 t1 rr => k.nx ρ M H1 σ qr (re.grow e1 t1)⟩
/-- a list of the frame's own is looked upon as a tree from here on (no code) -/
def wFrz (i : Nat) (a : WS) : WS := fun D ρ X => ∃ xs, ρ[i]? = some (some (.own xs)) ∧ a D (ρ.set i (some (.d (.list xs)))) X
theorem ess_frz {i : Nat} {sts : List Stmt} {w : WS} (h : PSs X sts (liftS (pm X T) E w)) : PSs X sts (liftS (pm X T) E (wFrz i w)) := PSsimp h fun D σ H ⟨H0, M0, M, ρ, XW, D3, re, ⟨xs, hx, q⟩, k⟩ => by
  obtain ⟨M', re'⟩ := re.freeze hx
  exact ⟨H0, M0, M', _, XW, D3, re', q, k⟩

/-! ### loops -/
def forL (tg : Tg) (body : WS) (D : End3) (X : Exc → Prop) : List PyData → Env3 → Prop
  | [], ρ => D.nx ρ
  | x :: xs, ρ => tgW tg x ρ fun ρ1 => body ⟨forL tg body D X xs, D.rt, D.nx, forL tg body D X xs⟩ ρ1 X
def wFor (it : WI) (tg : Tg) (body : WS) : WS := fun D ρ X => it ρ (fun wk xs => wk = false ∧ forL tg body D X xs ρ) X
theorem es_for {iter : Expr} {body : List Stmt} {it : WI} {g : Tg} {wb : WS} (hp : PassesOwn (model X.prog X.w) X.A X.env X.xe) (hc : X.calm = true) (hi : PI X tg iter (liftI (pm X T) E it)) (hg : PG X tg (tgG X.K g)) (hb : PSs X body (liftS (pm X T) E wb))
    (hs : ∀ x, foldedSetIterable iter X.env x = pure x := by intro _; rfl) : PS X (.For tg iter body [] pos) (liftS (pm X T) E (wFor it g wb)) := by
  refine PSimp (ps_for hp hc hi hg hb hs) fun D σ H ⟨H0, M0, M, ρ, XW, D3, re, q, k⟩ => ?_
  refine ⟨H0, M0, M, ρ, XW, _, re, k.xo re, q, fun wk xs J H1 ⟨hwk, qx⟩ e1 t1 hlen hw => ?_⟩
  subst hwk
  have re1 := re.grow e1 t1
  obtain ⟨G, Y, walk, hG, hY⟩ := (hw (rest0 M0 M H1) (fun _ => re1.fm0) (fun z => by cases z)).ex
  let Pv : Nat → St → Hp → Prop := fun i σ' H' => ∃ M' ρ', RE (pm X T) (rest0 M0 M H1) M0 M' H' σ' ρ' ∧ forL g wb D3 XW (xs.drop i) ρ'
  refine for_it walk Pv ⟨M, ρ, re1.rebase, qx⟩ (fun i σ' H' _ ⟨M', ρ', r, _⟩ => hG H' r.ext) ?_ ?_
  · rintro i x σ' H2 H3 hi ⟨M', ρ', r, ql⟩ y
    obtain ⟨e3, t3, d, hd, dd⟩ := hY i H2 x H3 M' hi r.ext (fun a m => (r.mown a m).imp (re1.m0 a) id) r.mdom y
    have hx : xs.drop i = d :: xs.drop (i + 1) := by
      obtain ⟨h1, h2⟩ := List.getElem?_eq_some_iff.mp hd
      rw [← h2]
      exact List.drop_eq_getElem_cons h1
    rw [hx] at ql
    refine tg_ok g (r.grow e3 (t3 r.tabs)) dd ql fun σ4 ρ4 q4 re4 _ => ?_
    refine ⟨_, M0, M', ρ4, XW, _, re4, q4, fun ρ5 M5 H5 σ5 q5 re5 => ⟨M5, ρ5, re5, q5⟩, fun ρ5 M5 H5 σ5 q5 re5 => k.nx ρ5 M5 H5 σ5 q5 (re1.unbase re5), fun ρ5 M5 H5 σ5 q5 re5 => ⟨M5, ρ5, re5, q5⟩, fun x cls d H' hx e t r => k.ex x cls d H' hx (re1.own0.trans e) t r, fun r v H5 q5 e5 t5 rr => ?_⟩
    refine k.rt r v H5 q5 (re1.own0.trans e5) t5 ?_
    exact rr.back re1.own0
  · rintro σ' H' ⟨M', ρ', r, ql⟩
    rw [List.drop_length] at ql
    exact k.nx ρ' M' H' σ' ql (re1.unbase r)
/-- while c: body, by an invariant and a measure -/
def wWhile (c : WB) (body : WS) : WS := fun D ρ X => ∃ I : Nat → Env3 → Prop, (∃ m, I m ρ) ∧ ∀ m ρ, I m ρ → c ρ (fun b => if b = true then body ⟨fun ρ' => ∃ m', m' < m ∧ I m' ρ', D.rt, D.nx, fun ρ' => ∃ m', m' < m ∧ I m' ρ'⟩ ρ X else D.nx ρ) X
theorem es_while {c : Expr} {body : List Stmt} {wc : WB} {wb : WS} (hp : PassesOwn (model X.prog X.w) X.A X.env X.xe) (hc : PT X c (liftB (pm X T) E wc)) (hb : PSs X body (liftS (pm X T) E wb)) : PS X (.While c body [] pos) (liftS (pm X T) E (wWhile wc wb)) := by
  refine PSimp (ps_while hp hc hb) fun D σ H ⟨H0, M0, M, ρ, XW, D3, re, ⟨I, ⟨m0, i0⟩, turn⟩, k⟩ => ?_
  refine ⟨fun m σ' H' => ∃ M' ρ', RE (pm X T) H0 M0 M' H' σ' ρ' ∧ I m ρ', ⟨m0, M, ρ, re, i0⟩, ?_⟩
  rintro m σ' H' ⟨M', ρ', r, hI⟩
  refine ⟨H0, M0, M', ρ', XW, _, r, k.xo r, turn m ρ' hI, fun b H1 qb e1 t1 => ?_⟩
  cases b with
  | false => exact k.nx ρ' M' H1 σ' qb (r.grow e1 t1)
  | true =>
    refine ⟨fun σ2 H2 => ∃ m', m' < m ∧ ∃ M2 ρ2, RE (pm X T) H0 M0 M2 H2 σ2 ρ2 ∧ I m' ρ2, fun σ2 H2 ⟨m', hm, M2, ρ2, r2, h2⟩ => ⟨m', hm, M2, ρ2, r2, h2⟩, ?_⟩
    refine ⟨H0, M0, M', ρ', XW, _, r.grow e1 t1, qb, fun ρ5 M5 H5 σ5 ⟨m', hm, h5⟩ re5 => ⟨m', hm, M5, ρ5, re5, h5⟩, fun ρ5 M5 H5 σ5 q5 re5 => k.nx ρ5 M5 H5 σ5 q5 re5, fun ρ5 M5 H5 σ5 ⟨m', hm, h5⟩ re5 => ⟨m', hm, M5, ρ5, re5, h5⟩, k.ex, k.rt⟩

/-! ### a list of the frame's own, changed in place -/
theorem tyl {K : PySem.W.Frag} {H : Hp} {a : Addr} {vs : List V} (h : H a = some (.lst vs)) : tyV K "list" (.ref a) H := .inl ⟨rfl, vs, SqL.of h⟩
/-- x.append(e) -/
def wApp (i : Nat) (w : W) : WS := fun D ρ X => ∃ xs, ρ[i]? = some (some (.own xs)) ∧ w ρ (fun r => r.st fun x => xs.length < sizeLine ∧ D.nx (ρ.set i (some (.own (xs ++ [x]))))) X
theorem es_app {i : Nat} {w : W} {apos cpos : Pos} (ho : PE X a (tVar i)) (he : PE X e (lift (pm X T) E w)) (hs : starEach [e] X.env = (false, eval e X.env) :: starEach [] X.env := by rfl)
    (hbase : attributeBase a "append" X.env (eval a X.env) = eval a X.env := by rfl)
    (hfew : ((backTo cpos (starEach [e] X.env)).all (fun x => !x.1) && (backToKw cpos (keywordEach [] X.env)).all (fun x => x.1.isSome) && decide ([e].length + ([] : List Keyword).length + (if ([] : List Keyword).isEmpty then 0 else 1) < 30)) = true := by rfl)
    (hline : (apos.endLine == cpos.line) = true := by rfl) (hplain : (backTo cpos (starEach [] X.env)).any (·.1) = false := by rfl)
    (hsw : swapsWith (.Call (.Attribute a "append" apos) [e] [] cpos) none pos.line X.env = pure false := by rfl) :
    PS X (.Expr (.Call (.Attribute a "append" apos) [e] [] cpos) pos) (liftS (pm X T) E (wApp i w)) := by
  refine PSimp (ps_expr (pe_bm PySem.F.plainAttrs_list PySem.F.slot_list_append PySem.F.type_list_append mt_append ho (pa_cons he pa_nil hs) hbase hfew hline hs hplain) hsw) fun D σ H ⟨H0, M0, M, ρ, XW, D3, re, ⟨xs, hx, q⟩, k⟩ => ?_
  obtain ⟨v, h1, p, vs, rfl, m, hp, hd⟩ := re.slot i _ hx
  refine ⟨_, h1, tyl hp, H0, M0, M, ρ, XW, _, re, k.xo re, q, fun r u H1 qr e1 t1 rr => ?_⟩
  obtain ⟨x, hx', hl, qx⟩ := rr.strong re.mdom qr
  have re1 := re.grow e1 t1
  have hp1 : H1 p = some (.lst vs) := e1 _ _ hp (fun ps q => by cases q)
  exact ⟨p, vs, u, rfl, rfl, hp1, by rw [hd.length]; exact hl, k.nx _ M _ σ qx (re1.upd hx h1 ((DMs.fm (.of e1) hd).append (.cons hx' .nil)))⟩
/-- x.extend(e) -/
def wExt (i : Nat) (w : W) : WS := fun D ρ X => ∃ xs, ρ[i]? = some (some (.own xs)) ∧ w ρ (fun r => r.wk fun y => match y with | .list ys => xs.length + ys.length ≤ sizeLine ∧ D.nx (ρ.set i (some (.own (xs ++ ys)))) | _ => False) X
theorem es_ext {i : Nat} {w : W} {apos cpos : Pos} (ho : PE X a (tVar i)) (he : PE X e (lift (pm X T) E w)) (hs : starEach [e] X.env = (false, eval e X.env) :: starEach [] X.env := by rfl)
    (hbase : attributeBase a "extend" X.env (eval a X.env) = eval a X.env := by rfl)
    (hfew : ((backTo cpos (starEach [e] X.env)).all (fun x => !x.1) && (backToKw cpos (keywordEach [] X.env)).all (fun x => x.1.isSome) && decide ([e].length + ([] : List Keyword).length + (if ([] : List Keyword).isEmpty then 0 else 1) < 30)) = true := by rfl)
    (hline : (apos.endLine == cpos.line) = true := by rfl) (hplain : (backTo cpos (starEach [] X.env)).any (·.1) = false := by rfl)
    (hsw : swapsWith (.Call (.Attribute a "extend" apos) [e] [] cpos) none pos.line X.env = pure false := by rfl) :
    PS X (.Expr (.Call (.Attribute a "extend" apos) [e] [] cpos) pos) (liftS (pm X T) E (wExt i w)) := by
  refine PSimp (ps_expr (pe_bm PySem.F.plainAttrs_list PySem.F.slot_list_extend PySem.F.type_list_extend mt_extend ho (pa_cons he pa_nil hs) hbase hfew hline hs hplain) hsw) fun D σ H ⟨H0, M0, M, ρ, XW, D3, re, ⟨xs, hx, q⟩, k⟩ => ?_
  obtain ⟨v, h1, p, vs, rfl, m, hp, hd⟩ := re.slot i _ hx
  refine ⟨_, h1, tyl hp, H0, M0, M, ρ, XW, _, re, k.xo re, q, fun r u H1 qr e1 t1 rr => ?_⟩
  obtain ⟨y, hy, qy⟩ := rr.weak qr
  have re1 := re.grow e1 t1
  have hp1 : H1 p = some (.lst vs) := e1 _ _ hp (fun ps q => by cases q)
  cases y with
  | list ys =>
    obtain ⟨b, ws, rfl, hb, hw⟩ := hy.lst
    exact ⟨p, b, vs, ws, rfl, rfl, hp1, hb, by rw [hd.length, hw.length]; exact qy.1, k.nx _ M _ σ qy.2 (re1.upd hx h1 ((DMs.fm (.of e1) hd).append hw))⟩
  | _ => exact qy.elim
/-- x[k] = v -/
def wSetIx (i : Nat) (wi wv : W) : WS := fun D ρ X => wv ρ (fun r => r.st fun y => ∃ xs, ρ[i]? = some (some (.own xs)) ∧ wi ρ (fun s => s.wk fun t => match t with
  | .int k => ∃ j, ixN xs.length k = some j ∧ D.nx (ρ.set i (some (.own (xs.set j y))))
  | _ => False) X) X
theorem es_setIx {i : Nat} {wi wv : W} {v : Expr} {spos : Pos} (hv : PE X v (lift (pm X T) E wv)) (ho : PE X a (tVar i)) (hk : PE X b (lift (pm X T) E wi))
    (ha : ∀ v, assign (.Subscript a b spos) X.env v = (do
      let ov ← holding [v] (eval a X.env)
      let iv ← holding [v, ov] (eval b X.env)
      standAt spos
      holding [v, ov, iv] (setItem ov iv v)
      release [v, ov, iv] []) := by intro _; rfl)
    (hs : swapsWithSole [.Subscript a b spos] v pos.line X.env = pure false := by rfl) (hw : swappedStores [.Subscript a b spos] v X.env = pure none := by rfl)
    (h1 : (assignEach [.Subscript a b spos] X.env).map (·.2) = [assign (.Subscript a b spos) X.env] := by rfl) :
    PS X (.Assign [.Subscript a b spos] v pos) (liftS (pm X T) E (wSetIx i wi wv)) := by
  refine PSimp (ps_asg hv (pg_sub ho hk set_list ha) hs hw h1) fun D σ H ⟨H0, M0, M, ρ, XW, D3, re, q, k⟩ => ?_
  refine ⟨H0, M0, M, ρ, XW, _, re, k.xo re, q, fun r u H1 qr e1 t1 rr => ?_⟩
  obtain ⟨y, hy, xs, hx, qy⟩ := rr.strong re.mdom qr
  have re1 := re.grow e1 t1
  obtain ⟨v', h1, p, vs, rfl, m, hp, hd⟩ := re1.slot i _ hx
  refine ⟨_, h1, H0, M0, M, ρ, XW, _, re1, k.xo re1, qy, fun s w H2 qs e2 t2 rs => ?_⟩
  obtain ⟨t, ht, qt⟩ := rs.weak qs
  have re2 := re1.grow e2 t2
  have hp2 : H2 p = some (.lst vs) := e2 _ _ hp (fun ps q => by cases q)
  cases t with
  | int n =>
    obtain ⟨j, hj, qj⟩ := qt
    exact ⟨p, vs, n, j, rfl, ht.int, hp2, by rw [hd.length]; exact hj, k.nx _ M _ σ qj (re2.upd hx h1 ((DMs.fm (.of e2) hd).set (DM.fm (.of e2) hy) j))⟩
  | _ => exact qt.elim
theorem get_list : PGet X (rIxL X.K) := by
  intro pins s σ H o i ov iv Q I ro ri h
  obtain ⟨p, xs, k, z, rfl, rfl, hq, he, q⟩ := h
  cases ro
  obtain ⟨t, rfl⟩ := ri
  obtain ⟨its, r, pl, hz⟩ := I.list hq
  obtain ⟨j, h1, h2, h3, h4, h5⟩ := atI_get he
  obtain ⟨w, ew, rw'⟩ := r.get h2
  have hl := r.length
  have hn := line63
  have fin : EP X pins σ Q w s := ⟨z, H, I, rw', q⟩
  by_cases h0 : 0 ≤ k
  · have hj : k.toNat = j := by
      rw [seqIndex_of h0 h5] at h1
      exact Option.some.inj h1
    exact wpAny_getItem_list pl.isList h0 (by omega) (by rw [hj]; simpa using ew) fin
  · have hj : (k + (its.toArray.size : Int)).toNat = j := by
      rw [seqIndex_neg (by omega) h4] at h1
      rw [List.size_toArray, ← hl]
      exact Option.some.inj h1
    exact wpAny_getItem_list_neg pl.isList (by omega) (by rw [List.size_toArray]; omega) (by omega) (by rw [hj]; simpa using ew) fin
/-- x[k] op= e, ints -/
def wAugIx (f : Int → Int → Int) (i : Nat) (wi we : W) : WS := fun D ρ X => ∃ xs, ρ[i]? = some (some (.own xs)) ∧ wi ρ (fun s => s.wk fun t => match t with
  | .int k => ∃ j m, ixN xs.length k = some j ∧ xs[j]? = some (.int m) ∧ we ρ (fun r => r.wk fun y => match y with
    | .int n => D.nx (ρ.set i (some (.own (xs.set j (.int (f m n))))))
    | _ => False) X
  | _ => False) X
theorem es_augIx {op : Operator} {f : Int → Int → Int} {i : Nat} {wi we : W} {v : Expr} {tpos : Pos} (hop : PIp X op (ipI f)) (ho : PE X a (tVar i)) (hk : PE X b (lift (pm X T) E wi)) (hv : PE X v (lift (pm X T) E we))
    (ha : ∀ ov iv new, augStore b ov iv new = (do holding [new, ov, iv] (setItem ov iv new); release [new, ov, iv] []; pure .next) := by intros; rfl) :
    PS X (.AugAssign (.Subscript a b tpos) op v pos) (liftS (pm X T) E (wAugIx f i wi we)) := by
  refine PSimp (ps_augS ho hk get_list hv hop set_list ha) fun D σ H ⟨H0, M0, M, ρ, XW, D3, re, ⟨xs, hx, q⟩, k⟩ => ?_
  obtain ⟨v', h1, p, vs, rfl, m, hp, hd⟩ := re.slot i _ hx
  refine ⟨_, h1, H0, M0, M, ρ, XW, _, re, k.xo re, q, fun s w H1 qs e1 t1 rs => ?_⟩
  obtain ⟨t, ht, qt⟩ := rs.weak qs
  have re1 := re.grow e1 t1
  have hp1 : H1 p = some (.lst vs) := e1 _ _ hp (fun ps q => by cases q)
  cases t with
  | int n =>
    obtain ⟨j, m', hj, hm, qe⟩ := qt
    have hd1 := DMs.fm (.of e1) hd
    obtain ⟨u, hu, du⟩ := hd1.at hm
    cases du
    refine ⟨p, vs, n, .int m', rfl, ht.int, SqL.of hp1, ?_, H0, M0, M, ρ, XW, _, re1, k.xo re1, qe, fun r w2 H2 q2 e2 t2 r2 => ?_⟩
    · unfold L2.atI
      rw [hd.length, hj]
      exact hu
    · obtain ⟨y, hy, qy⟩ := r2.weak q2
      have re2 := re1.grow e2 t2
      have hp2 : H2 p = some (.lst vs) := e2 _ _ hp1 (fun ps q => by cases q)
      cases y with
      | int n2 =>
        exact ⟨m', n2, rfl, hy.int, p, vs, n, j, rfl, ht.int, hp2, by rw [hd.length]; exact hj, k.nx _ M _ σ qy (re2.upd hx h1 ((DMs.fm (.of e2) hd1).set (.int _) j))⟩
      | _ => exact qy.elim
  | _ => exact qt.elim
/-- x op= e, ints -/
def wAug (f : Int → Int → Int) (i : Nat) (we : W) : WS := fun D ρ X => ∃ m, ρ[i]? = some (some (.d (.int m))) ∧ we ρ (fun r => r.wk fun y => match y with
  | .int n => D.nx (ρ.set i (some (.d (.int (f m n)))))
  | _ => False) X
theorem es_aug {op : Operator} {f : Int → Int → Int} {i : Nat} {x : Str} {we : W} {pos' : Pos} (hN : X.N.Nodup) (hi : X.N[i]? = some x) (hx : Loc X.env.scope x) (he : PE X e (lift (pm X T) E we)) (ho : PIp X op (ipI f)) (hf : X.fn x = true ∨ X.env.scope.names.lookup x = some .local := by first | exact .inl rfl | exact .inr rfl | assumption) :
    PS X (.AugAssign (.Name x pos') op e pos) (liftS (pm X T) E (wAug f i we)) := by
  refine PSimp (ps_aug hN hi hx he ho hf) fun D σ H ⟨H0, M0, M, ρ, XW, D3, re, ⟨m, hm, q⟩, k⟩ => ?_
  obtain ⟨v, h1, h2⟩ := re.slot i _ hm
  cases h2
  refine ⟨_, h1, H0, M0, M, ρ, XW, _, re, k.xo re, q, fun r u H1 qr e1 t1 rr => ?_⟩
  obtain ⟨y, hy, qy⟩ := rr.weak qr
  cases y with
  | int n => exact ⟨m, n, rfl, hy.int, k.nx _ M H1 _ qy ((re.grow e1 t1).set i (z := .d (.int _)) (.int _))⟩
  | _ => exact qy.elim
/-- f.append(l.pop(k)) -/
def wAppPop (f l : Nat) (wk : W) : WS := fun D ρ X => ∃ fs ls, f ≠ l ∧ ρ[f]? = some (some (.own fs)) ∧ ρ[l]? = some (some (.own ls)) ∧ wk ρ (fun s => s.wk fun t => match t with
  | .int n => (-(2 ^ 63) ≤ n ∧ n < 2 ^ 63 ∧ fs.length < sizeLine) ∧ ∃ j y, ixN ls.length n = some j ∧ ls[j]? = some y ∧ D.nx ((ρ.set l (some (.own (ls.eraseIdx j)))).set f (some (.own (fs ++ [y]))))
  | _ => False) X
theorem DMs.erase {K : PySem.W.Frag} {M : Ad} {H : Hp} : ∀ {vs : List V} {ds : List PyData} (i : Nat), DMs K M H vs ds → DMs K M H (vs.eraseIdx i) (ds.eraseIdx i)
  | _, _, _, .nil => .nil
  | _, _, 0, .cons _ r => r
  | _, _, i + 1, .cons h r => .cons h (DMs.erase i r)
theorem es_appPop {f l : Nat} {wk : W} {c : Expr} {apos cpos apos2 cpos2 : Pos} (ho : PE X a (tVar f)) (hl : PE X c (tVar l)) (he : PE X e (lift (pm X T) E wk)) (hs : starEach [e] X.env = (false, eval e X.env) :: starEach [] X.env := by rfl)
    (hs2 : starEach [.Call (.Attribute c "pop" apos2) [e] [] cpos2] X.env = (false, eval (.Call (.Attribute c "pop" apos2) [e] [] cpos2) X.env) :: starEach [] X.env := by rfl)
    (hbase : attributeBase a "append" X.env (eval a X.env) = eval a X.env := by rfl)
    (hfew : ((backTo cpos (starEach [.Call (.Attribute c "pop" apos2) [e] [] cpos2] X.env)).all (fun x => !x.1) && (backToKw cpos (keywordEach [] X.env)).all (fun x => x.1.isSome) && decide (([.Call (.Attribute c "pop" apos2) [e] [] cpos2] : List Expr).length + ([] : List Keyword).length + (if ([] : List Keyword).isEmpty then 0 else 1) < 30)) = true := by rfl)
    (hline : (apos.endLine == cpos.line) = true := by rfl) (hplain : (backTo cpos (starEach [] X.env)).any (·.1) = false := by rfl)
    (hbase2 : attributeBase c "pop" X.env (eval c X.env) = eval c X.env := by rfl)
    (hfew2 : ((backTo cpos2 (starEach [e] X.env)).all (fun x => !x.1) && (backToKw cpos2 (keywordEach [] X.env)).all (fun x => x.1.isSome) && decide ([e].length + ([] : List Keyword).length + (if ([] : List Keyword).isEmpty then 0 else 1) < 30)) = true := by rfl)
    (hline2 : (apos2.endLine == cpos2.line) = true := by rfl) (hplain2 : (backTo cpos2 (starEach [] X.env)).any (·.1) = false := by rfl)
    (hsw : swapsWith (.Call (.Attribute a "append" apos) [.Call (.Attribute c "pop" apos2) [e] [] cpos2] [] cpos) none pos.line X.env = pure false := by rfl) :
    PS X (.Expr (.Call (.Attribute a "append" apos) [.Call (.Attribute c "pop" apos2) [e] [] cpos2] [] cpos) pos) (liftS (pm X T) E (wAppPop f l wk)) := by
  refine PSimp (ps_expr (pe_bm PySem.F.plainAttrs_list PySem.F.slot_list_append PySem.F.type_list_append mt_append ho (pa_cons (pe_bm PySem.F.plainAttrs_list PySem.F.slot_list_pop PySem.F.type_list_pop mt_popAt hl (pa_cons he pa_nil hs) hbase2 hfew2 hline2 hs hplain2) pa_nil hs2) hbase hfew hline hs2 hplain) hsw)
    fun D σ H ⟨H0, M0, M, ρ, XW, D3, re, ⟨fs, ls, hne, hf, hl, q⟩, k⟩ => ?_
  obtain ⟨v, h1, p, vs, rfl, m, hp, hd⟩ := re.slot f _ hf
  obtain ⟨v2, h2, p2, vs2, rfl, m2, hp2, hd2⟩ := re.slot l _ hl
  have pne : p ≠ p2 := fun z => by
    subst z
    exact re.ownd f l fs ls p hne hf hl h1 h2
  refine ⟨_, h1, tyl hp, _, h2, tyl hp2, H0, M0, M, ρ, XW, _, re, k.xo re, q, fun s w H1 qs e1 t1 rs => ?_⟩
  obtain ⟨t, ht, qt⟩ := rs.weak qs
  have re1 := re.grow e1 t1
  have hp1 : H1 p = some (.lst vs) := e1 _ _ hp (fun ps q => by cases q)
  have hp21 : H1 p2 = some (.lst vs2) := e1 _ _ hp2 (fun ps q => by cases q)
  have hd1 := DMs.fm (.of e1) hd
  have hd21 := DMs.fm (.of e1) hd2
  cases t with
  | int n =>
    obtain ⟨⟨c1, c2, c3⟩, j, y, hj, hy, qq⟩ := qt
    obtain ⟨u, hu, du⟩ := hd21.at hy
    have re2 := re1.upd hl h2 (hd21.erase j)
    have fm : Fm M H1 (upd H1 p2 (.lst (vs2.eraseIdx j))) := fun c' u' z nm nt => by
      rw [upd_ne (show c' ≠ p2 from fun w => nm (by rw [w]; exact m2))]
      exact z
    have hf2 : (ρ.set l (some (.own (ls.eraseIdx j))))[f]? = some (some (.own fs)) := by
      rw [List.getElem?_set_ne (Ne.symm hne)]
      exact hf
    refine ⟨p2, vs2, n, j, u, rfl, by rw [ht.int], hp21, c1, c2, ?_, hu, p, vs, u, rfl, rfl, ?_, by rw [hd.length]; exact c3, ?_⟩
    · rw [hd2.length]
      exact (ixN_seq hj).1
    · rw [upd_ne pne]
      exact hp1
    · exact k.nx _ M _ σ qq (re2.upd hf2 h1 ((DMs.fm fm hd1).append (.cons (DM.fm fm du) .nil)))
  | _ => exact qt.elim
/-- t = l.pop(), l.pop(0): o false, true -/
def wPop (l : Nat) (front : Bool) (g : Tg) : WS := fun D ρ _ => ∃ ls j y, ρ[l]? = some (some (.own ls)) ∧ j = (if front = true then 0 else ls.length - 1) ∧ ls[j]? = some y ∧ tgW g y (ρ.set l (some (.own (ls.eraseIdx j)))) D.nx
theorem dropLast_erase {α : Type} : ∀ (l : List α), l.dropLast = l.eraseIdx (l.length - 1)
  | [] => rfl
  | [_] => rfl
  | a :: b :: l => by
    have h := dropLast_erase (b :: l)
    show a :: (b :: l).dropLast = (a :: b :: l).eraseIdx (l.length + 1)
    rw [h]
    rfl
theorem es_pop {l : Nat} {g : Tg} {apos cpos : Pos} (ho : PE X a (tVar l)) (hg : PG X tg (tgG X.K g)) (hbase : attributeBase a "pop" X.env (eval a X.env) = eval a X.env := by rfl) (hline : (apos.endLine == cpos.line) = true := by rfl)
    (hs : swapsWithSole [tg] (.Call (.Attribute a "pop" apos) [] [] cpos) pos.line X.env = pure false := by rfl) (hw : swappedStores [tg] (.Call (.Attribute a "pop" apos) [] [] cpos) X.env = pure none := by rfl)
    (h1 : (assignEach [tg] X.env).map (·.2) = [assign tg X.env] := by rfl) : PS X (.Assign [tg] (.Call (.Attribute a "pop" apos) [] [] cpos) pos) (liftS (pm X T) E (wPop l false g)) := by
  refine PSimp (ps_asg (pe_bm0 PySem.F.plainAttrs_list PySem.F.slot_list_pop PySem.F.type_list_pop mt_pop ho hbase hline) hg hs hw h1) fun D σ H ⟨H0, M0, M, ρ, XW, D3, re, ⟨ls, j, y, hl, ej, hy, q⟩, k⟩ => ?_
  obtain ⟨v2, h2, p, vs, rfl, m, hp, hd⟩ := re.slot l _ hl
  rw [if_neg Bool.false_ne_true] at ej
  subst ej
  obtain ⟨u, hu, du⟩ := hd.at hy
  have fm : Fm M H (upd H p (.lst (vs.eraseIdx (ls.length - 1)))) := fun c' u' z nm nt => by
    rw [upd_ne (show c' ≠ p from fun w => nm (by rw [w]; exact m))]
    exact z
  refine ⟨_, h2, tyl hp, p, vs, u, rfl, rfl, hp, by rw [hd.length]; exact hu, ?_⟩
  rw [dropLast_erase, hd.length]
  exact tg_ok g (re.upd hl h2 (hd.erase _)) (DM.fm fm du) q fun σ' ρ' q' re' _ => k.nx _ M _ _ q' re'
theorem es_pop0 {l : Nat} {g : Tg} {apos cpos p0 : Pos} {k0} (ho : PE X a (tVar l)) (hg : PG X tg (tgG X.K g)) (hbase : attributeBase a "pop" X.env (eval a X.env) = eval a X.env := by rfl) (hline : (apos.endLine == cpos.line) = true := by rfl)
    (hst : starEach [.Constant (.int 0) k0 p0] X.env = (false, eval (.Constant (.int 0) k0 p0) X.env) :: starEach [] X.env := by rfl)
    (hfew : ((backTo cpos (starEach [.Constant (.int 0) k0 p0] X.env)).all (fun x => !x.1) && (backToKw cpos (keywordEach [] X.env)).all (fun x => x.1.isSome) && decide (([.Constant (.int 0) k0 p0] : List Expr).length + ([] : List Keyword).length + (if ([] : List Keyword).isEmpty then 0 else 1) < 30)) = true := by rfl)
    (hplain : (backTo cpos (starEach [] X.env)).any (·.1) = false := by rfl)
    (hs : swapsWithSole [tg] (.Call (.Attribute a "pop" apos) [.Constant (.int 0) k0 p0] [] cpos) pos.line X.env = pure false := by rfl) (hw : swappedStores [tg] (.Call (.Attribute a "pop" apos) [.Constant (.int 0) k0 p0] [] cpos) X.env = pure none := by rfl)
    (h1 : (assignEach [tg] X.env).map (·.2) = [assign tg X.env] := by rfl) : PS X (.Assign [tg] (.Call (.Attribute a "pop" apos) [.Constant (.int 0) k0 p0] [] cpos) pos) (liftS (pm X T) E (wPop l true g)) := by
  refine PSimp (ps_asg (pe_bm PySem.F.plainAttrs_list PySem.F.slot_list_pop PySem.F.type_list_pop mt_popAt ho (pa_cons pe_int pa_nil hst) hbase hfew hline hst hplain) hg hs hw h1) fun D σ H ⟨H0, M0, M, ρ, XW, D3, re, ⟨ls, j, y, hl, ej, hy, q⟩, k⟩ => ?_
  obtain ⟨v2, h2, p, vs, rfl, m, hp, hd⟩ := re.slot l _ hl
  rw [if_pos rfl] at ej
  subst ej
  obtain ⟨u, hu, du⟩ := hd.at hy
  have fm : Fm M H (upd H p (.lst (vs.eraseIdx 0))) := fun c' u' z nm nt => by
    rw [upd_ne (show c' ≠ p from fun w => nm (by rw [w]; exact m))]
    exact z
  have hlt : 0 < vs.length := (List.getElem?_eq_some_iff.mp hu).1
  refine ⟨_, h2, tyl hp, p, vs, 0, 0, u, rfl, rfl, hp, by decide, by decide, ?_, hu, ?_⟩
  · exact (ixN_seq (n := vs.length) (i := 0) (j := 0) (by unfold ixN; rw [if_pos (Int.le_refl 0), if_pos (by omega)]; rfl)).1
  · exact tg_ok g (re.upd hl h2 (hd.erase _)) (DM.fm fm du) q fun σ' ρ' q' re' _ => k.nx _ M _ _ q' re'
end
end T3
set_option linter.all false
set_option maxRecDepth 100000
set_option maxHeartbeats 2000000
set_option Elab.async false
/-! T9: defs by contracts over trees, their calls, own exceptions raised, a lambda handed on. -/
namespace T3
open L2 LamX PySem PyProof.Rows PySem.Spec

/-! ### contracts -/
abbrev Ct := List R → (R → Prop) → (Exc → Prop) → Prop
def spC (P : Pm) (C : Ct) : Sp := fun vs H Q E => ∃ (M0 : Ad) (rs : List R) (Q3 : R → Prop) (X3 : Exc → Prop), (∀ a, M0 a → ¬ Off H a) ∧ Tabs P.T H ∧ RAs P.K M0 H vs rs ∧ C rs Q3 X3 ∧
  (∀ r v H', Q3 r → ExtN H H' → Tabs P.T H' → RR P.K M0 H H' v r → Q v H') ∧ XOk P E X3 M0 H
/-- a def by its promise; g: nothing may be told of what repr guards (false), or it is known that nothing is (true) -/
structure FnG (g : Bool) (P : Program) (w : World) (K : PySem.W.Frag) (mg : Str → Option Value) (base : Heap) (k : Nat) (f : Addr) (fd : FuncData) (ps : List Str) (sp : Sp) : Prop where
  len : ∀ vs H Q E, sp vs H Q E → vs.length = ps.length
  run : ∀ (A : Around) (outer : List Env) (s : Shared) (H : Hp) (args : Args) (us : List Value) (vs : List V) (Q : VK) (E : XK), Room k A → (g = true → A.guards = some []) → Env0 P w K mg base A outer s H → BindsTo s fd args (ps.zip us) → Vals vs us → sp vs H Q E →
    codeAny (model P w) A (.call (.ref f) args) (CR (L2.CX P w) outer P w H s Q E) s
section
variable {g : Bool} {P : Program} {w : World} {K : PySem.W.Frag} {mg : Str → Option Value} {base : Heap} {k : Nat} {f : Addr} {fd : FuncData} {ps : List Str} {sp : Sp}
theorem FnG.mono {j : Nat} (F : FnG g P w K mg base j f fd ps sp) (h : j ≤ k) : FnG g P w K mg base k f fd ps sp := ⟨F.len, fun A outer s H args us vs Q E hr => F.run A outer s H args us vs Q E (hr.mono h)⟩
theorem FnG.imp {sp' : Sp} (F : FnG g P w K mg base k f fd ps sp) (h : ∀ vs H Q E, sp' vs H Q E → sp vs H Q E) : FnG g P w K mg base k f fd ps sp' :=
  ⟨fun vs H Q E q => F.len vs H Q E (h _ _ _ _ q), fun A outer s H args us vs Q E hr hg he hb hv hs => F.run A outer s H args us vs Q E hr hg he hb hv (h _ _ _ _ hs)⟩
end
/-- the slots at a def's entry -/
def startR (N : List Str) (rs : List R) : Env3 := rs.map some ++ List.replicate (N.length - rs.length) none
theorem RAs.at {K : PySem.W.Frag} {M : Ad} {H : Hp} : ∀ {vs : List V} {rs : List R} {i : Nat} {r : R}, RAs K M H vs rs → rs[i]? = some r → ∃ v, vs[i]? = some v ∧ RA K M H v r
  | _, _, _, _, .nil, e => by simp at e
  | _, _, 0, _, .cons h _, e => by
    have q := Option.some.inj (by simpa using e)
    subst q
    exact ⟨_, rfl, h⟩
  | _, _, i + 1, r, .cons _ t, e => by
    obtain ⟨v, h1, h2⟩ := RAs.at (i := i) (r := r) t (by simpa using e)
    exact ⟨v, by simpa using h1, h2⟩
theorem startR_at {N : List Str} {rs : List R} {i : Nat} {r : R} (h : (startR N rs)[i]? = some (some r)) : rs[i]? = some r := by
  unfold startR at h
  by_cases hi : i < rs.length
  · rw [List.getElem?_append_left (by simpa using hi), List.getElem?_map] at h
    cases e : rs[i]? with
    | none => rw [e] at h; cases h
    | some a => rw [e] at h; cases h; rfl
  · rw [List.getElem?_append_right (by simpa using hi), List.getElem?_replicate] at h
    split at h <;> cases h
theorem start_at {N : List Str} {vs : List V} {i : Nat} {v : V} (h : vs[i]? = some v) : (L2.start N vs)[i]? = some (some v) := by
  obtain ⟨hi, e⟩ := List.getElem?_eq_some_iff.mp h
  unfold L2.start
  rw [List.getElem?_append_left (by simpa using hi), List.getElem?_map, h]
  rfl
theorem re_start {P : Pm} {H : Hp} {M0 : Ad} {N : List Str} {vs : List V} {rs : List R} (hm : ∀ a, M0 a → ¬ Off H a) (ht : Tabs P.T H) (ra : RAs P.K M0 H vs rs) : RE P H M0 M0 H (L2.start N vs) (startR N rs) where
  ext := ExtN.refl H
  tabs := ht
  m0 := fun _ m => m
  mdom := hm
  mown := fun _ m => .inl m
  m0dom := hm
  slot := fun i r q => by
    obtain ⟨v, h1, h2⟩ := ra.at (startR_at q)
    exact ⟨v, start_at h1, h2.rs⟩
  ownf := fun i xs a q _ => by
    obtain ⟨v, h1, h2⟩ := ra.at (startR_at q)
    exact False.elim h2
  ownd := fun i j xs ys a _ q _ _ => by
    obtain ⟨v, h1, h2⟩ := ra.at (startR_at q)
    exact False.elim h2
  len := by
    unfold startR L2.start
    rw [List.length_append, List.length_append, List.length_map, List.length_map, List.length_replicate, List.length_replicate, ra.length]
section
variable {g : Bool} {P : Program} {w : World} {K : PySem.W.Frag} {mg : Str → Option Value} {base : Heap} {T : List (Addr × Str)}
/-- THE RULE for a def: its body's reading, and what that reading comes to -/
theorem fn_okG {x qual : Str} {st : Stmt} {f : Addr} {fd : FuncData} {N ps : List Str} {k : Nat} {C : Ct} {wb : WS} (F : Fun K x qual st f fd) (S : FnScope N ps (defScope st)) (len : ∀ rs Q X, C rs Q X → rs.length = ps.length)
    (hbody : ∀ (cdv : Value) (A : Around) (outer : List Env) (s : Shared) (H : Hp) (E : XK), Room k (A.deeper (envOfC qual (defScope st) s.heap.objs.size f cdv)) → (g = true → (A.deeper (envOfC qual (defScope st) s.heap.objs.size f cdv)).guards = some []) →
      PSs (cxOf (L2.CX P w) P w K mg base N qual (defScope st) f cdv A outer s H E) (defBody st) (liftS ⟨K, mg, T⟩ E wb))
    (hpure : ∀ rs Q X, C rs Q X → wb ⟨fun _ => Q (.d .none), Q, fun _ => False, fun _ => False⟩ (startR N rs) X) : FnG g P w K mg base (k + 1) f fd ps (spC ⟨K, mg, T⟩ C) := by
  obtain ⟨oc, od, kV, doc, pm, an, cdv, ct, osl, rfl, lk, hcd⟩ := F.ex
  have len' : ∀ vs H Q E, spC ⟨K, mg, T⟩ C vs H Q E → vs.length = ps.length := fun vs H Q E ⟨M0, rs, Q3, X3, _, _, ra, hC, _⟩ => by rw [ra.length]; exact len _ _ _ hC
  refine ⟨len', fun A outer s H args us vs Q E hr hg e0 hb r hs => ?_⟩
  refine run_ofS lk hcd S hr e0 hb r (len' _ _ _ _ hs) fun hr' => ⟨_, hbody cdv A outer s H E hr' hg, ?_⟩
  obtain ⟨M0, rs, Q3, X3, hm, ht, ra, hC, hQ, hE⟩ := hs
  exact ⟨H, M0, M0, startR N rs, X3, _, re_start hm ht ra, hpure rs Q3 X3 hC, fun ρ' M' H' σ' q re => hQ _ .non H' q re.ext re.tabs .non, fun _ _ _ _ q _ => q.elim, fun _ _ _ _ q _ => q.elim, hE, fun r v H' q e t rr => hQ r v H' q e t rr⟩
end

/-! ### calls -/
section
variable {g : Bool} {X : Cx} {T : List (Addr × Str)} {E : XK} {e a b : Expr} {pos p : Pos} {k : Nat} {f : Addr} {fd : FuncData} {ps : List Str}
abbrev WRs := Env3 → (List R → Prop) → (Exc → Prop) → Prop
def wRnil : WRs := fun _ Q _ => Q []
def wRcons (w : W) (ws : WRs) : WRs := fun ρ Q X => w ρ (fun r => r.ar fun z => ws ρ (fun zs => Q (z :: zs)) X) X
def liftRs (P : Pm) (E : XK) (w : WRs) : TA := fun σ H Q => ∃ H0 M0 M ρ XW Q3, RE P H0 M0 M H σ ρ ∧ XOk P E XW M H ∧ w ρ Q3 XW ∧
  ∀ zs vs H', Q3 zs → ExtN H H' → Tabs P.T H' → RAs P.K M H' vs zs → Q vs H'
theorem er_nil : PA X [] (liftRs (pm X T) E wRnil) := PAimp pa_nil fun σ H Q ⟨H0, M0, M, ρ, XW, Q3, re, xo, q, k⟩ => k [] [] H q (ExtN.refl H) re.tabs .nil
theorem er_cons {es : List Expr} {w : W} {ws : WRs} (he : PE X e (lift (pm X T) E w)) (hr : PA X es (liftRs (pm X T) E ws)) (hs : starEach (e :: es) X.env = (false, eval e X.env) :: starEach es X.env := by rfl) :
    PA X (e :: es) (liftRs (pm X T) E (wRcons w ws)) := by
  refine PAimp (pa_cons he hr hs) fun σ H Q ⟨H0, M0, M, ρ, XW, Q3, re, xo, q, k⟩ => ?_
  refine ⟨H0, M0, M, ρ, XW, _, re, xo, q, fun r v H1 qr e1 t1 rr => ?_⟩
  obtain ⟨z, hz, qz⟩ := rr.arg re.mdom qr
  exact ⟨H0, M0, M, ρ, XW, _, re.grow e1 t1, xo.grow e1, qz, fun zs vs H2 q2 e2 t2 ra => k (z :: zs) (v :: vs) H2 q2 (e1.trans e2) t2 (.cons (hz.ext e2) ra)⟩
theorem run_fnG {pins : List (Addr × Obj)} {σ : St} {H : Hp} {s : Shared} {Q : VK} {us : List Value} {vs : List V} {sp : Sp} (F : FnG g X.prog X.w X.K X.mg X.base k f fd ps sp) (hr : Room k X.A) (hg : g = true → X.A.guards = some []) (hb : Binds X.K fd ps [])
    (hx : L2.Passes (L2.CX X.prog X.w) X E) (I : Inv X pins σ H s) (r : Vals vs us) (h : sp vs H Q E) : wpAny (model X.prog X.w) X.A (call (.ref f) us) (EP X pins σ Q) X.xe s := by
  have hl : us.length = ps.length := by rw [← r.length]; exact F.len _ _ _ _ h
  have b := hb s us I.kIn (by rw [List.append_nil]; exact hl)
  rw [List.append_nil] at b
  refine wpAny_call (codeAny_mono (F.run X.A X.stack s H ⟨us, []⟩ us vs Q E hr hg I.env0 b r h) fun r s' hq => ?_)
  match r, hq with
  | .error e, hq => exact hx pins σ H s e s' I hq
  | .ok (.ret u), hq => exact I.after hq
  | .ok .next, hq => exact False.elim hq
  | .ok .brk, hq => exact False.elim hq
  | .ok .cont, hq => exact False.elim hq
/-- f(..) by f's contract -/
def wFn (C : Ct) (ws : WRs) : W := fun ρ Q X => ws ρ (fun rs => C rs Q X) X
theorem fn_lift {C : Ct} {ws : WRs} {σ : St} {H : Hp} {Q : VK} (h : lift (pm X T) E (wFn C ws) σ H Q) : liftRs (pm X T) E ws σ H fun vs H1 => spC (pm X T) C vs H1 Q E := by
  obtain ⟨H0, M0, M, ρ, XW, Q3, re, xo, q, k⟩ := h
  refine ⟨H0, M0, M, ρ, XW, _, re, xo, q, fun zs vs H1 qz e1 t1 ra => ?_⟩
  exact ⟨M, zs, Q3, XW, (re.grow e1 t1).mdom, t1, ra, qz, fun r v H' q' e' t' rr => k r v H' q' (e1.trans e') t' (rr.back e1), xo.grow e1⟩
theorem ev_fn {x : Str} {es : List Expr} {C : Ct} {ws : WRs} (F : FnG g X.prog X.w X.K X.mg X.base k f fd ps (spC (pm X T) C)) (hr : Room k X.A) (hgd : g = true → X.A.guards = some []) (hg : Gl X x) (hm : X.mg x = some (.ref f)) (hk : PySem.W.keepIn X.K (.ref f) = true) (hb : Binds X.K fd ps [])
    (hx : L2.Passes (L2.CX X.prog X.w) X E) (ha : PA X (e :: es) (liftRs (pm X T) E ws)) (hdb : (x == ("__debug__" : Str)) = false := by decide) (he : starEach (e :: es) X.env = (false, eval e X.env) :: starEach es X.env := by rfl) (hpl : (backTo pos (starEach es X.env)).any (·.1) = false := by rfl) :
    PE X (.Call (.Name x p) (e :: es) [] pos) (lift (pm X T) E (wFn C ws)) := by
  refine ⟨fun pins s σ H Q I h => ?_⟩
  refine wpAny_Call_Name_kw (ld_glob I hg hm ?_ hdb)
  refine PySem.W.callWith_K (h₀ := X.base) I.ok.mod.kin hk (thn (ha.run pos pins s σ H _ I (fn_lift h)) fun us s1 ⟨vs, H1, I1, r, q⟩ => ⟨I1.kIn, ?_⟩) he hpl
  exact run_fnG F hr hgd hb hx I1 r q
theorem ev_fn0 {x : Str} {C : Ct} (F : FnG g X.prog X.w X.K X.mg X.base k f fd ps (spC (pm X T) C)) (hr : Room k X.A) (hgd : g = true → X.A.guards = some []) (hg : Gl X x) (hm : X.mg x = some (.ref f)) (hk : PySem.W.keepIn X.K (.ref f) = true) (hb : Binds X.K fd ps [])
    (hx : L2.Passes (L2.CX X.prog X.w) X E) (hdb : (x == ("__debug__" : Str)) = false := by decide) : PE X (.Call (.Name x p) [] [] pos) (lift (pm X T) E (wFn C wRnil)) := by
  refine ⟨fun pins s σ H Q I h => ?_⟩
  refine wpAny_Call_Name_kw (ld_glob I hg hm ?_ hdb)
  obtain ⟨H0, M0, M, ρ, XW, Q3, re, xo, q, k⟩ := h
  exact PySem.W.callWith_K0 I.kIn hk (run_fnG (us := []) (vs := []) F hr hgd hb hx I .nil ⟨M, [], Q3, XW, re.mdom, re.tabs, .nil, q, k, xo⟩)
/-- what leaves a def's body leaves the def -/
theorem pass_cx {P : Program} {w : World} {K : PySem.W.Frag} {mg : Str → Option Value} {base : Heap} {N : List Str} {qual : Str} {scope : Scope} {f : Addr} {cd : Value} {A : Around} {outer : List Env} {s : Shared} {H : Hp} {E : XK} :
    L2.Passes (L2.CX P w) (cxOf (L2.CX P w) P w K mg base N qual scope f cd A outer s H E) E := passes_call (takes_of rfl rfl rfl rfl) fun _ _ _ _ h => h
theorem own_cx {P : Program} {w : World} {K : PySem.W.Frag} {mg : Str → Option Value} {base : Heap} {N : List Str} {qual : Str} {scope : Scope} {f : Addr} {cd : Value} {A : Around} {outer : List Env} {s : Shared} {H : Hp} {E : XK} :
    PassesOwn (model P w) (A.deeper (envOfC qual scope s.heap.objs.size f cd)) (envOfC qual scope s.heap.objs.size f cd) (cxOf (L2.CX P w) P w K mg base N qual scope f cd A outer s H E).xe :=
  passes_of (X := cxOf (L2.CX P w) P w K mg base N qual scope f cd A outer s H E) rfl

/-! ### raise X() -/
theorem pmk_own0 {C : Addr} {bmB : List Value} {B newId initId : String} {x : Str} (F : ExcBaseFacts B newId initId bmB) (q : PySem.W.excIn X.K C bmB newId = true) (gC : X.mg x = some (.ref C)) (kC : PySem.W.keepIn X.K (.ref C) = true) (r : Raises X (.ref C)) (hg : Gl X x)
    (hdb : (x == ("__debug__" : Str)) = false := by decide) : PMk X (.Call (.Name x p) [] [] pos) (fun _ H Q => Q (.ref C) none H) := by
  intro pins s σ H Q I h
  refine wpAny_Call_Name_kw (ld_glob I hg gC ?_ hdb)
  refine PySem.W.callWith_K0 I.kIn kC ?_
  obtain ⟨bm, N, nm, qn, bs, hdct, sn, sub, ab, col, dd, k0, k1, k2, k3, k5, mN, hC, hN, hni, tail⟩ := exc_obj I.kIn q
  refine wpAny_call_exc_subT F tail hC hN hni (fun h' e hm => ?_) (Nat.zero_le _)
  exact mk_of I hm r h (I.hok.gone hm.new)
/-- an own error class over ValueError (by way of others) without an own __init__, as the top has written it -/
structure ExC (K : PySem.W.Frag) (mg : Str → Option Value) (x : Str) (C : Addr) : Prop where
  g : mg x = some (.ref C)
  q : PySem.W.excIn K C [.type "ValueError", .type "Exception", .type "BaseException", .type "object"] "ValueError.__new__" = true
  k : PySem.W.keepIn K (.ref C) = true
  b : PySem.W.subIn K (.ref C) (.type "BaseException") = some true
  t : PySem.W.typeIn K (.ref C) = some (.type "type")
def wRaise (n : Str) : WS := fun _ _ X => X ⟨n, none⟩
theorem es_raise {x : Str} {C : Addr} {pos2 : Pos} (hc : X.calm = true) (tk : Takes X (fun cls d _ H => E cls d H)) (T' : ExC X.K X.mg x C) (hg : Gl X x) (hdb : (x == ("__debug__" : Str)) = false := by decide) :
    PS X (.Raise (some (.Call (.Name x p) [] [] pos)) none pos2) (liftS (pm X T) E (wRaise x)) :=
  PSimp (ps_raise hc tk (pmk_own0 PySem.F.excBase_ValueError T'.q T'.g T'.k (raises_own T'.b T'.t) hg hdb)) fun D σ H ⟨H0, M0, M, ρ, XW, D3, re, q, k⟩ =>
    k.ex ⟨x, none⟩ (.ref C) none H q re.ext re.tabs ⟨C, T'.g, rfl, rfl⟩

/-! ### a lambda handed to a def that calls it in a try -/
/-- the word that comes of a call -/
def wWord (told : Str) (wd : Exc → Option Str) (wc : W) : W := fun ρ Q _ => wc ρ (fun _ => Q (.d (.str told))) (fun x => ∃ z, wd x = some z ∧ Q (.d (.str z)))
/-- .. as the def makes it of the lambda's reading -/
def TWord (P : Pm) (told : Str) (wd : Exc → Option Str) : (XK → Hp → VK → Prop) → Hp → VK → Prop := fun tl H Q =>
  ∃ Ew : XK, (∀ cls d H', Ew cls d H' → ∃ x z, wd x = some z ∧ RX P (fun _ => False) x cls d H' ∧ Tabs P.T H' ∧ ∀ H'', ExtN H' H'' → Tabs P.T H'' → Q (.str z) H'') ∧
    tl Ew H (fun _ H' => Q (.str told) H')
theorem word_lift {told : Str} {wd : Exc → Option Str} {wc : W} {σ : St} {H : Hp} {Q : VK} (h : lift (pm X T) E (wWord told wd wc) σ H Q) : tLam T (TWord (pm X T) told wd) (fun E' => lift (pm X T) E' wc) σ H Q := by
  obtain ⟨H0, M0, M, ρ, XW, Q3, re, xo, q, k⟩ := h
  refine ⟨re.tabs, fun H1 e1 t1 => ?_⟩
  refine ⟨fun cls d H' => ∃ x z, wd x = some z ∧ Q3 (.d (.str z)) ∧ ExtN H1 H' ∧ Tabs T H' ∧ RX (pm X T) M x cls d H', fun cls d H' ⟨x, z, hz, hq, e2, t2, rx⟩ => ⟨x, z, hz, rx.anti (fun _ z => z.elim), t2, fun H'' e3 t3 => k _ _ H'' hq ((e1.trans e2).trans e3) t3 (.str z)⟩, ?_⟩
  exact ⟨H0, M0, M, ρ, _, _, re.grow e1 t1, fun x cls d H' ⟨z, hz, hq⟩ e2 t2 rx => ⟨x, z, hz, hq, e2, t2, rx⟩, q, fun r v H' hq e2 t2 rr => k _ _ H' hq (e1.trans e2) t2 (.str told)⟩
theorem ev_word {told : Str} {wd : Exc → Option Str} {wc : W} {x a : Str} {g c Pt : Addr} {k : Nat} {pg : Arguments} {bg : List Stmt} {sg : Scope} {dV kV doc pm' cdv ct oc : Value} {an od : Option Addr} {osl : Array (Option Value)} {Ng : List Str}
    {params : Arguments} {body : Expr} {scope : Scope} {lpos : Pos} (hg : Gl X x) (hm : X.mg x = some (.ref g)) (hk : PySem.W.keepIn X.K (.ref g) = true)
    (lk : X.K.lookup g = some ⟨oc, od, .func (PySem.W.fnOf x x pg bg sg dV kV doc pm' an cdv ct), osl⟩) (hcg : PySem.W.codeIn X.K cdv x = true) (hb : L2.Binds X.K (PySem.W.fnOf x x pg bg sg dV kV doc pm' an cdv ct) [a] []) (Sg : FnScope Ng [a] sg) (hNg : Ng[0]? = some a) (hva : Vis sg a)
    (hG : GivesTo X Ng x sg g cdv bg a (X.env.qual ++ "<lambda>") (TWord (pm X T) told wd))
    (TB : TabB X.base X.mg c Pt) (hcode : X.env.code = .ref c) (hmT : (Pt, X.env.qual ++ "<lambda>") ∈ T) (hu : ∀ p ∈ T, p.1 = Pt → p.2 = X.env.qual ++ "<lambda>") (hr : Room (k + 2) X.A) (L : LamS X.env.scope scope) (hdef : defaultsOf params X.env = ([], []))
    (hbind : ∀ (q : Str) (cl : List (Str × Addr)) (pm cv ctv : Value), bindArgs (PySem.W.kla_fn "<lambda>" q params body scope cl pm cv ctv) ⟨[], []⟩ = pure [])
    (hbody : ∀ (A : Around) (outer : List Env) (s : Shared) (H : Hp) (E' : XK) (f c' : Addr), Room k (A.deeper (lamEnv X scope s.heap.objs.size f c')) → PE (lamCx X A outer s H E' scope f c') body (lift (pm X T) E' wc))
    (hdb : (x == ("__debug__" : Str)) = false := by decide) (hd : (a == ("__debug__" : Str)) = false := by decide) (hcd : (a == ("__classdict__" : Str)) = false := by decide) :
    PE X (.Call (.Name x p) [.Lambda params body scope lpos] [] pos) (lift (pm X T) E (wWord told wd wc)) :=
  PEimp (pe_lamcall (T := T) hg hm hk lk hcg hb Sg hNg hva hG TB hcode hmT hu hr L hdef hbind hbody hdb hd hcd) fun _ _ _ h => word_lift h
end

/-! ### a def that may be called -/
structure Cal (g : Bool) (P : Program) (w : World) (K : PySem.W.Frag) (mg : Str → Option Value) (base : Heap) (T : List (Addr × Str)) (k : Nat) (x : Str) (C : Ct) : Prop where
  ex : ∃ (f : Addr) (fd : FuncData) (ps : List Str), FnG g P w K mg base k f fd ps (spC ⟨K, mg, T⟩ C) ∧ Binds K fd ps [] ∧ PySem.W.keepIn K (.ref f) = true ∧ mg x = some (.ref f)
/-- a def of the text as the top has written it; Pc: what is known of its code object -/
structure Def (K : PySem.W.Frag) (mg : Str → Option Value) (x : Str) (st : Stmt) (Pc : Value → Prop) : Prop where
  ex : ∃ (f : Addr) (oc : Value) (od : Option Addr) (kV doc pm : Value) (an : Option Addr) (cdv ct : Value) (osl : Array (Option Value)),
    mg x = some (.ref f) ∧ K.lookup f = some ⟨oc, od, .func (PySem.W.fnOf x x (defArgs st) (defBody st) (defScope st) .none kV doc pm an cdv ct), osl⟩ ∧ PySem.W.codeIn K cdv x = true ∧ PySem.W.keepIn K (.ref f) = true ∧ Pc cdv
def anyC : Value → Prop := fun _ => True
abbrev BindsBy (x : Str) (st : Stmt) (ps : List Str) : Prop := ∀ (kV doc pm : Value) (an : Option Addr) (cdv ct : Value) (us : List Value), us.length = ps.length → bindArgs (PySem.W.fnOf x x (defArgs st) (defBody st) (defScope st) .none kV doc pm an cdv ct) ⟨us, []⟩ = pure (ps.zip us)
theorem fnx_of {g : Bool} {P : Program} {w : World} {K : PySem.W.Frag} {mg : Str → Option Value} {base : Heap} {T : List (Addr × Str)} {k : Nat} {x : Str} {st : Stmt} {ps N : List Str} {Pc : Value → Prop} {C : Ct} {wb : WS} (D : Def K mg x st Pc) (S : FnScope N ps (defScope st)) (hb : BindsBy x st ps) (len : ∀ rs Q X, C rs Q X → rs.length = ps.length)
    (hbody : ∀ (f : Addr) (cdv : Value) (A : Around) (outer : List Env) (s : Shared) (H : Hp) (E : XK), Pc cdv → Room k (A.deeper (envOfC x (defScope st) s.heap.objs.size f cdv)) → (g = true → (A.deeper (envOfC x (defScope st) s.heap.objs.size f cdv)).guards = some []) →
      PSs (cxOf (L2.CX P w) P w K mg base N x (defScope st) f cdv A outer s H E) (defBody st) (liftS ⟨K, mg, T⟩ E wb))
    (hpure : ∀ rs Q X, C rs Q X → wb ⟨fun _ => Q (.d .none), Q, fun _ => False, fun _ => False⟩ (startR N rs) X) : ∃ (f : Addr) (oc : Value) (od : Option Addr) (kV doc pm : Value) (an : Option Addr) (cdv ct : Value) (osl : Array (Option Value)), mg x = some (.ref f) ∧ K.lookup f = some ⟨oc, od, .func (PySem.W.fnOf x x (defArgs st) (defBody st) (defScope st) .none kV doc pm an cdv ct), osl⟩ ∧ PySem.W.keepIn K (.ref f) = true ∧
    FnG g P w K mg base (k + 1) f (PySem.W.fnOf x x (defArgs st) (defBody st) (defScope st) .none kV doc pm an cdv ct) ps (spC ⟨K, mg, T⟩ C) := by
  obtain ⟨f, oc, od, kV, doc, pm, an, cdv, ct, osl, hm, lk, hc, hk, hp⟩ := D.ex
  have hB := hb kV doc pm an cdv ct
  have len' : ∀ vs H Q E, spC ⟨K, mg, T⟩ C vs H Q E → vs.length = ps.length := fun vs H Q E ⟨M0, rs, Q3, X3, _, _, ra, hC, _⟩ => by rw [ra.length]; exact len _ _ _ hC
  refine ⟨f, oc, od, kV, doc, pm, an, cdv, ct, osl, hm, lk, hk, len', fun A outer s H args us vs Q E hr hg e0 hb2 r hs => ?_⟩
  refine run_ofS lk hc S hr e0 hb2 r (len' _ _ _ _ hs) fun hr' => ⟨_, hbody f cdv A outer s H E hp hr' hg, ?_⟩
  obtain ⟨M0, rs, Q3, X3, hm2, ht, ra, hC, hQ, hE⟩ := hs
  exact ⟨H, M0, M0, startR N rs, X3, _, re_start hm2 ht ra, hpure rs Q3 X3 hC, fun ρ' M' H' σ' q re => hQ _ .non H' q re.ext re.tabs .non, fun _ _ _ _ q _ => q.elim, fun _ _ _ _ q _ => q.elim, hE, fun r v H' q e t rr => hQ r v H' q e t rr⟩
theorem cal_of {g : Bool} {P : Program} {w : World} {K : PySem.W.Frag} {mg : Str → Option Value} {base : Heap} {T : List (Addr × Str)} {k : Nat} {x : Str} {st : Stmt} {ps N : List Str} {Pc : Value → Prop} {C : Ct} {wb : WS} (D : Def K mg x st Pc) (S : FnScope N ps (defScope st)) (hb : BindsBy x st ps) (len : ∀ rs Q X, C rs Q X → rs.length = ps.length)
    (hbody : ∀ (f : Addr) (cdv : Value) (A : Around) (outer : List Env) (s : Shared) (H : Hp) (E : XK), Pc cdv → Room k (A.deeper (envOfC x (defScope st) s.heap.objs.size f cdv)) → (g = true → (A.deeper (envOfC x (defScope st) s.heap.objs.size f cdv)).guards = some []) →
      PSs (cxOf (L2.CX P w) P w K mg base N x (defScope st) f cdv A outer s H E) (defBody st) (liftS ⟨K, mg, T⟩ E wb))
    (hpure : ∀ rs Q X, C rs Q X → wb ⟨fun _ => Q (.d .none), Q, fun _ => False, fun _ => False⟩ (startR N rs) X) : Cal g P w K mg base T (k + 1) x C := by
  obtain ⟨f, oc, od, kV, doc, pm, an, cdv, ct, osl, hm, lk, hk, F⟩ := fnx_of D S hb len hbody hpure
  exact ⟨f, _, ps, F, .all (hb kV doc pm an cdv ct), hk, hm⟩
theorem Cal.mono {g : Bool} {P : Program} {w : World} {K : PySem.W.Frag} {mg : Str → Option Value} {base : Heap} {T : List (Addr × Str)} {k : Nat} {x : Str} {C C' : Ct} (c : Cal g P w K mg base T k x C) (h : ∀ rs Q X, C' rs Q X → C rs Q X) : Cal g P w K mg base T k x C' := by
  obtain ⟨f, fd, ps, F, r⟩ := c.ex
  exact ⟨f, fd, ps, F.imp fun vs H Q E ⟨M0, rs, Q3, X3, h1, h2, h3, h4, h5⟩ => ⟨M0, rs, Q3, X3, h1, h2, h3, h _ _ _ h4, h5⟩, r⟩
section
variable {g : Bool} {X : Cx} {T : List (Addr × Str)} {E : XK} {e : Expr} {pos p : Pos} {k k' : Nat}
theorem ev_fnC {x : Str} {es : List Expr} {C : Ct} {ws : WRs} (c : Cal g X.prog X.w X.K X.mg X.base T k x C) (hr : Room k' X.A) (hle : k ≤ k') (hgd : g = true → X.A.guards = some []) (hg : Gl X x)
    (hx : L2.Passes (L2.CX X.prog X.w) X E) (ha : PA X (e :: es) (liftRs (pm X T) E ws)) (hdb : (x == ("__debug__" : Str)) = false := by decide) (he : starEach (e :: es) X.env = (false, eval e X.env) :: starEach es X.env := by rfl) (hpl : (backTo pos (starEach es X.env)).any (·.1) = false := by rfl) :
    PE X (.Call (.Name x p) (e :: es) [] pos) (lift (pm X T) E (wFn C ws)) := by
  obtain ⟨f, fd, ps, F, hb, hk, hm⟩ := c.ex
  exact ev_fn F (hr.mono hle) hgd hg hm hk hb hx ha hdb he hpl
theorem ev_fnC0 {x : Str} {C : Ct} (c : Cal g X.prog X.w X.K X.mg X.base T k x C) (hr : Room k' X.A) (hle : k ≤ k') (hgd : g = true → X.A.guards = some []) (hg : Gl X x)
    (hx : L2.Passes (L2.CX X.prog X.w) X E) (hdb : (x == ("__debug__" : Str)) = false := by decide) : PE X (.Call (.Name x p) [] [] pos) (lift (pm X T) E (wFn C wRnil)) := by
  obtain ⟨f, fd, ps, F, hb, hk, hm⟩ := c.ex
  exact ev_fn0 F (hr.mono hle) hgd hg hm hk hb hx hdb
/-- -x -/
def negD (x : PyData) (k : R → Prop) : Prop := match x with
  | .int i => k (.d (.int (-i)))
  | _ => False
theorem un_negD : UnR X (unaryOp .USub) (rD1 (pm X T) negD) := fun pins s σ H x v Q I r h => un_neg pins s σ H x v Q I r (by
  obtain ⟨M, d, Q3, hm, ht, hd, q, k⟩ := h
  unfold negD at q
  split at q
  · exact ⟨_, hd.int, k _ _ _ q (ExtN.refl H) ht (.int _)⟩
  · exact q.elim)
theorem u64 {A : Around} {k : Nat} (hr : Room k A) : A.units + 64 < cLine := hr.units
theorem u65 {A : Around} {k : Nat} (hr : Room k A) : A.units + 65 < cLine := by
  have := hr.un
  omega
end
theorem bb_len : bootBuiltins "len" = some (.builtin "len") := by decide +kernel
theorem bb_abs : bootBuiltins "abs" = some (.builtin "abs") := by decide +kernel
theorem bb_min : bootBuiltins "min" = some (.builtin "min") := by decide +kernel
theorem bb_max : bootBuiltins "max" = some (.builtin "max") := by decide +kernel
theorem bb_sum : bootBuiltins "sum" = some (.builtin "sum") := by decide +kernel
theorem bb_all : bootBuiltins "all" = some (.builtin "all") := by decide +kernel
theorem bb_any : bootBuiltins "any" = some (.builtin "any") := by decide +kernel
theorem bb_repr : bootBuiltins "repr" = some (.builtin "repr") := by decide +kernel
theorem bb_sorted : bootBuiltins "sorted" = some (.builtin "sorted") := by decide +kernel
theorem bb_isinstance : bootBuiltins "isinstance" = some (.builtin "isinstance") := by decide +kernel
theorem bb_int : bootBuiltins "int" = some (.type "int") := by decide +kernel
theorem bb_bool : bootBuiltins "bool" = some (.type "bool") := by decide +kernel
theorem bb_str : bootBuiltins "str" = some (.type "str") := by decide +kernel
theorem bb_tuple : bootBuiltins "tuple" = some (.type "tuple") := by decide +kernel
theorem bb_list : bootBuiltins "list" = some (.type "list") := by decide +kernel
theorem bb_dict : bootBuiltins "dict" = some (.type "dict") := by decide +kernel
end T3
set_option linter.all false
set_option maxRecDepth 100000
set_option maxHeartbeats 2000000
set_option Elab.async false
/-! T10: further sources of loops; in, count, index; texts shown by repr; names of the module. -/
namespace T3
open L2 LamX PySem PyProof.Rows PySem.Spec

section
variable {X : Cx} {T : List (Addr × Str)} {E : XK} {e a b : Expr} {pos p : Pos} {tg : Expr}
theorem it_lst {pins : List (Addr × Obj)} {σ : St} {H : Hp} {s : Shared} {R : It → Hp → Prop} {l : Addr} {xs : List V} (J : Inv X pins σ H s) (hq : SqL X.K H l xs) (q : R (Itl X.K l) H) : wpAny (model X.prog X.w) X.A (pyIter (.ref l)) (PIE X pins σ tg R) X.xe s := by
  obtain ⟨its, _, pl, _⟩ := J.list hq
  have kept := J.kept (h' := s.heap.push { cls := .type "list_iterator", data := .fields #[.ref l, .int 0 0] }) (t' := s.toks) fun b o e => Heap.get?_push_of_some _ e
  exact wpAny_pyIter_list pl.isList ⟨_, [s.heap.objs.size], _, _, H, rfl, kept, turn_list l s.heap.objs.size, ⟨_, Heap.get?_push_size _ rfl, rfl, rfl⟩, fun b hb => by
    cases List.mem_singleton.mp hb
    exact J.fpOk (Nat.le_refl _) (J.hok.fresh (Nat.le_refl _)), q⟩
theorem it_tpl {pins : List (Addr × Obj)} {σ : St} {H : Hp} {s : Shared} {R : It → Hp → Prop} {l : Addr} {xs : List V} (J : Inv X pins σ H s) (hq : SqT X.K H l xs) (q : R (Itt X.K l) H) : wpAny (model X.prog X.w) X.A (pyIter (.ref l)) (PIE X pins σ tg R) X.xe s := by
  obtain ⟨its, _, pl, _⟩ := J.tuple hq
  have pl' : s.heap.IsTuple l its.toArray := pl
  have kept := J.kept (h' := s.heap.push { cls := .type "tuple_iterator", data := .fields #[.ref l, .int 0 0] }) (t' := s.toks) fun b o e => Heap.get?_push_of_some _ e
  exact wpAny_pyIter_tuple pl' ⟨_, [s.heap.objs.size], _, _, H, rfl, kept, turn_tuple l s.heap.objs.size, ⟨_, Heap.get?_push_size _ rfl, rfl, rfl⟩, fun b hb => by
    cases List.mem_singleton.mp hb
    exact J.fpOk (Nat.le_refl _) (J.hok.fresh (Nat.le_refl _)), q⟩
/-- what is a list (false) or a tuple (true), its items; wk: a list of the frame's own -/
def R.sq : R → (Bool → Bool → List PyData → Prop) → Prop
  | .d (.list xs), k => k false false xs
  | .d (.tuple xs), k => k false true xs
  | .fr xs, k => k false false xs
  | .own xs, k => k true false xs
  | _, _ => False
def SqAt (K : PySem.W.Frag) (M : Ad) (H : Hp) (wk t : Bool) (a : Addr) (vs : List V) (xs : List PyData) : Prop :=
  (if t = true then TupM K M H a vs else H a = some (.lst vs) ∧ (wk = false → ¬ M a)) ∧ DMs K M H vs xs
theorem RR.sq {K : PySem.W.Frag} {M : Ad} {Hb H : Hp} {v : V} {r : R} {k : Bool → Bool → List PyData → Prop} (hm : ∀ b, M b → ¬ Off Hb b) (h : RR K M Hb H v r) (q : r.sq k) : ∃ a vs wk t xs, v = .ref a ∧ SqAt K M H wk t a vs xs ∧ k wk t xs := by
  cases r with
  | d x =>
    cases x with
    | list xs =>
      cases h with
      | lst l r => exact ⟨_, _, false, false, xs, rfl, ⟨⟨l.2, fun _ => l.1⟩, r⟩, q⟩
    | tuple xs =>
      cases h with
      | tup l r => exact ⟨_, _, false, true, xs, rfl, ⟨l, r⟩, q⟩
    | _ => exact q.elim
  | own xs =>
    obtain ⟨p, vs, rfl, m, h2, h3⟩ := h
    exact ⟨_, _, true, false, xs, rfl, ⟨⟨h2, fun z => by cases z⟩, h3⟩, q⟩
  | fr xs =>
    obtain ⟨p, vs, rfl, o, h2, h3⟩ := h
    exact ⟨_, _, false, false, xs, rfl, ⟨⟨h2, fun _ z => hm p z o⟩, DMs.anti (fun b z => .inl z) h3⟩, q⟩
  | hand L => exact q.elim
  | scr ns => exact q.elim
  | adr b => exact q.elim
section
variable {K : PySem.W.Frag} {M : Ad} {H H' F : Hp} {wk t : Bool} {a : Addr} {vs : List V} {xs : List PyData}
theorem SqAt.ext (e : ExtN H H') (h : SqAt K M H wk t a vs xs) : SqAt K M H' wk t a vs xs := by
  refine ⟨?_, DMs.fm (.of e) h.2⟩
  cases t with
  | true => exact TupM.fm (.of e) h.1
  | false => exact ⟨e _ _ h.1.1 (fun ps q => by cases q), h.1.2⟩
theorem SqAt.sq (h : SqAt K M H wk t a vs xs) : SqL K H a vs ∨ SqT K H a vs := by
  cases t with
  | true => exact .inr (TupM.sq h.1)
  | false => exact .inl (SqL.of h.1.1)
/-- .. told of a part of the heap -/
theorem SqAt.part (h : SqAt K M H wk t a vs xs) (h1 : wk = false → Fm M H F) (h2 : wk = true → F = H) : SqAt K M F wk t a vs xs := by
  cases wk with
  | true => rw [h2 rfl]; exact h
  | false =>
    refine ⟨?_, DMs.fm (h1 rfl) h.2⟩
    cases t with
    | true => exact TupM.fm (h1 rfl) h.1
    | false => exact ⟨h1 rfl _ _ h.1.1 (h.1.2 rfl) (fun ps q => by cases q), h.1.2⟩
end
def wIs (w : W) : WI := fun ρ Q X => w ρ (fun r => r.sq fun wk _ xs => Q wk xs) X
theorem ei_seq {w : W} (h : PE X e (lift (pm X T) E w)) : PI X tg e (liftI (pm X T) E (wIs w)) := by
  refine ⟨fun pins s σ H R I ⟨H0, M0, M, ρ, XW, Q3, re, xo, q, k⟩ => ?_⟩
  refine thn ((PElen h).run pins s σ H (fun v H1 => ∃ a, v = .ref a ∧ ((∃ vs, SqL X.K H1 a vs ∧ R (Itl X.K a) H1) ∨ ∃ vs, SqT X.K H1 a vs ∧ R (Itt X.K a) H1)) I ?_) fun u s1 ⟨v, H1, I1, r1, a, e1, q1⟩ => ?_
  · refine ⟨H0, M0, M, ρ, XW, _, re, xo, q, fun r v H1 qr e1 t1 rr len => ?_⟩
    obtain ⟨a, vs, wk, t, xs, rfl, sq, qx⟩ := rr.sq re.mdom qr
    have hl : xs.length ≤ sizeLine := by rw [← sq.2.length]; exact len _ _ rfl sq.sq
    refine ⟨a, rfl, ?_⟩
    cases t with
    | true => exact .inr ⟨vs, TupM.sq sq.1, k wk xs _ H1 qx e1 t1 hl fun F h1 h2 => by
        have z := sq.part h1 h2
        exact walk_tpl (TupM.sq z.1) z.2⟩
    | false => exact .inl ⟨vs, SqL.of sq.1.1, k wk xs _ H1 qx e1 t1 hl fun F h1 h2 => by
        have z := sq.part h1 h2
        exact walk_lst z.1.1 z.2⟩
  · subst e1
    cases r1
    rcases q1 with ⟨vs, hs, hR⟩ | ⟨vs, hs, hR⟩
    · exact it_lst I1 hs hR
    · exact it_tpl I1 hs hR
/-- zip of two lists or of two tuples -/
def zipD : List PyData → List PyData → List PyData
  | x :: xs, y :: ys => .tuple [x, y] :: zipD xs ys
  | _, _ => []
theorem zipD_len : ∀ xs ys : List PyData, (zipD xs ys).length = min xs.length ys.length
  | [], _ => by simp [zipD]
  | _ :: _, [] => by simp [zipD]
  | x :: xs, y :: ys => by
    show (zipD xs ys).length + 1 = min (xs.length + 1) (ys.length + 1)
    rw [zipD_len xs ys]
    omega
theorem zipD_at : ∀ {xs ys : List PyData} {i : Nat} {x y : PyData}, xs[i]? = some x → ys[i]? = some y → (zipD xs ys)[i]? = some (.tuple [x, y])
  | x :: xs, y :: ys, 0, _, _, h1, h2 => by
    cases h1
    cases h2
    rfl
  | x :: xs, y :: ys, i + 1, u, v, h1, h2 => by
    have h := zipD_at (xs := xs) (ys := ys) (i := i) (x := u) (y := v) (by simpa using h1) (by simpa using h2)
    simpa [zipD] using h
  | [], _, _, _, _, h1, _ => by simp at h1
  | _ :: _, [], _, _, _, _, h2 => by simp at h2
def wIz (a b : W) : WI := fun ρ Q X => a ρ (fun r => r.sq fun w1 t1 xs => b ρ (fun s => s.sq fun w2 t2 ys => t1 = t2 ∧ Q (w1 || w2) (zipD xs ys)) X) X
theorem walk_zipTT {K : PySem.W.Frag} {a b : Addr} {xs ys : List V} {n : Nat} (hn : n = min xs.length ys.length) : Walk (RZ.ItzT K a b) n (fun H => SqT K H a xs ∧ SqT K H b ys) (YPair (fun i => xs[i]?) (fun i => ys[i]?)) := by
  subst hn
  refine ⟨fun i _ hi q => ?_, fun _ q => ⟨xs, ys, q.1, q.2, by omega⟩, fun i H v H' _ q y => ?_⟩
  · have l1 : i < xs.length := by omega
    have l2 : i < ys.length := by omega
    exact ⟨xs, ys, xs[i], ys[i], q.1, q.2, by simp [l1], by simp [l2]⟩
  · obtain ⟨tp, u, z, y1, y2, y3, y4, y5⟩ := y
    exact ⟨tp, u, z, y1, y2, y3, y4 xs q.1, y5 ys q.2⟩
/-- a pair just laid -/
theorem pair_new {K : PySem.W.Frag} {M' : Ad} {H : Hp} {tp : Addr} {u z : V} {x y : PyData} (hm : ∀ a, M' a → ¬ Off H a) (h : H tp = none) (hu : DM K M' H u x) (hz : DM K M' H z y) : DM K M' (upd H tp (.tup [u, z])) (.ref tp) (.tuple [x, y]) :=
  tup_new hm (ExtN.refl H) h (.cons hu (.cons hz .nil))
theorem ei_zip {wa wb : W} {tpos : Pos} {elts : List Expr} {kk : Nat} (hg : Gl X "zip") (hm : X.mg "zip" = none) (ha : PE X a (lift (pm X T) E wa)) (hb : PE X b (lift (pm X T) E wb)) (hs : starEach [a, b] X.env = (false, eval a X.env) :: starEach [b] X.env := by rfl) (hs2 : starEach [b] X.env = (false, eval b X.env) :: starEach [] X.env := by rfl) (hpl : (backTo pos (starEach [b] X.env)).any (·.1) = false := by rfl) :
    PI X (.Tuple elts kk tpos) (.Call (.Name "zip" p) [a, b] [] pos) (liftI (pm X T) E (wIz wa wb)) := by
  refine PIimp (RZ.pi_zipA hg hm (pa_cons (PElen ha) (pa_cons (PElen hb) pa_nil hs2) hs) hs hpl) fun σ H R ⟨H0, M0, M, ρ, XW, Q3, re, xo, q, k⟩ => ?_
  refine ⟨H0, M0, M, ρ, XW, _, re, xo, q, fun r v H1 qr e1 t1 rr len => ?_⟩
  obtain ⟨a1, vs, w1, t, xs, rfl, sq, qx⟩ := rr.sq re.mdom qr
  have re1 := re.grow e1 t1
  refine ⟨H0, M0, M, ρ, XW, _, re1, xo.grow e1, qx, fun s u H2 qs e2 t2 rs len2 => ?_⟩
  obtain ⟨b1, us, w2, t', ys, rfl, sq2, et, qy⟩ := rs.sq re1.mdom qs
  subst et
  have hl : (zipD xs ys).length ≤ sizeLine := by
    rw [zipD_len]
    have := len _ _ rfl sq.sq
    have := sq.2.length
    omega
  have sq := sq.ext e2
  have yields : ∀ {F H3 H4 : Hp} {v : V} {M' : Ad} {i : Nat}, DMs X.K M F vs xs → DMs X.K M F us ys → ExtN F H3 → (∀ c, M' c → M c ∨ Off F c) → (∀ c, M' c → ¬ Off H3 c) → YPair (fun i => vs[i]?) (fun i => us[i]?) i H3 v H4 → ExtN H3 H4 ∧ (Tabs T H3 → Tabs T H4) ∧ ∃ d, (zipD xs ys)[i]? = some d ∧ DM X.K M' H4 v d := by
    rintro F H3 H4 v M' i d1 d2 e m md ⟨tp, u, z, rfl, hT, rfl, hu, hz⟩
    obtain ⟨x, hx, dx⟩ := d1.get hu
    obtain ⟨y, hy, dy⟩ := d2.get hz
    exact ⟨ext_new hT, fun t => tabs_new t hT, _, zipD_at hx hy, pair_new md hT (dx.off e m) (dy.off e m)⟩
  refine ⟨a1, b1, vs, us, rfl, ?_⟩
  cases t with
  | false =>
    refine .inl ⟨SqL.of sq.1.1, SqL.of sq2.1.1, k (w1 || w2) _ _ H2 qy (e1.trans e2) t2 hl fun F h1 h2 => ?_⟩
    have z1 : SqAt X.K M F w1 false a1 vs xs := sq.part (fun z => by
      cases w2 with
      | false => exact h1 (by rw [z]; rfl)
      | true => rw [h2 (by simp)]; exact Fm.refl) fun z => h2 (by rw [z]; rfl)
    have z2 : SqAt X.K M F w2 false b1 us ys := sq2.part (fun z => by
      cases w1 with
      | false => exact h1 (by rw [z]; rfl)
      | true => rw [h2 (by simp)]; exact Fm.refl) fun z => h2 (by rw [z]; simp)
    refine ⟨⟨_, _, walk_zip (xs := vs) (ys := us) (by rw [zipD_len, sq.2.length, sq2.2.length]), fun H3 e => ⟨SqL.of (e _ _ z1.1.1 (fun ps q => by cases q)), SqL.of (e _ _ z2.1.1 (fun ps q => by cases q))⟩, fun i H3 x H4 M' _ e m md y => yields z1.2 z2.2 e m md y⟩⟩
  | true =>
    refine .inr ⟨TupM.sq sq.1, TupM.sq sq2.1, k (w1 || w2) _ _ H2 qy (e1.trans e2) t2 hl fun F h1 h2 => ?_⟩
    have z1 : SqAt X.K M F w1 true a1 vs xs := sq.part (fun z => by
      cases w2 with
      | false => exact h1 (by rw [z]; rfl)
      | true => rw [h2 (by simp)]; exact Fm.refl) fun z => h2 (by rw [z]; rfl)
    have z2 : SqAt X.K M F w2 true b1 us ys := sq2.part (fun z => by
      cases w1 with
      | false => exact h1 (by rw [z]; rfl)
      | true => rw [h2 (by simp)]; exact Fm.refl) fun z => h2 (by rw [z]; simp)
    refine ⟨⟨_, _, walk_zipTT (xs := vs) (ys := us) (by rw [zipD_len, sq.2.length, sq2.2.length]), fun H3 e => ⟨sqT_ext e (TupM.sq z1.1), sqT_ext e (TupM.sq z2.1)⟩, fun i H3 x H4 M' _ e m md y => yields z1.2 z2.2 e m md y⟩⟩
/-! ### in, count, index -/
def inDD : Op2 := fun x y k => match y with
  | .list ys => SeqAt.shaped x = true ∧ SeqAt.shaped y = true ∧ k (.d (.bool (ys.any fun z => PyData.eqv z x)))
  | .tuple ys => SeqAt.shaped x = true ∧ SeqAt.shaped y = true ∧ k (.d (.bool (ys.any fun z => PyData.eqv z x)))
  | _ => False
def notInDD : Op2 := fun x y k => match y with
  | .list ys => SeqAt.shaped x = true ∧ SeqAt.shaped y = true ∧ k (.d (.bool (!ys.any fun z => PyData.eqv z x)))
  | .tuple ys => SeqAt.shaped x = true ∧ SeqAt.shaped y = true ∧ k (.d (.bool (!ys.any fun z => PyData.eqv z x)))
  | _ => False
theorem op_inTup (hu : X.A.units + 65 < cLine) : OpR X (compareOp .In) (fun x y H Q => ∃ d ds, Dp X.K H x d ∧ Dp X.K H y (.tuple ds) ∧ SeqAt.shaped d = true ∧ SeqAt.shaped (.tuple ds) = true ∧ Q (.bl (ds.any fun z => PyData.eqv z d)) H) := fun pins s σ H x y v u Q I rx ry ⟨d, ds, hd, he, sd, se, q⟩ => by
  obtain ⟨as, r1⟩ := Dp.reads I d x v hd rx
  obtain ⟨bs, r2⟩ := Dp.reads I (.tuple ds) y u he ry
  exact SeqAt.in_tuple_reads r2 r1 (lay_of_shaped se) (lay_of_shaped sd) (room_in_shaped sd hu) ⟨.bl _, H, I, rfl, q⟩
theorem op_notInTup (hu : X.A.units + 65 < cLine) : OpR X (compareOp .NotIn) (fun x y H Q => ∃ d ds, Dp X.K H x d ∧ Dp X.K H y (.tuple ds) ∧ SeqAt.shaped d = true ∧ SeqAt.shaped (.tuple ds) = true ∧ Q (.bl (!ds.any fun z => PyData.eqv z d)) H) := fun pins s σ H x y v u Q I rx ry ⟨d, ds, hd, he, sd, se, q⟩ => by
  obtain ⟨as, r1⟩ := Dp.reads I d x v hd rx
  obtain ⟨bs, r2⟩ := Dp.reads I (.tuple ds) y u he ry
  exact SeqAt.notIn_tuple_reads r2 r1 (lay_of_shaped se) (lay_of_shaped sd) (room_in_shaped sd hu) ⟨.bl _, H, I, rfl, q⟩
theorem op_inDD (hu : X.A.units + 65 < cLine) : OpR X (compareOp .In) (rD (pm X T) inDD) := OpRimp ((op_inD hu).or (op_inTup hu)) fun x y H Q h => by
  obtain ⟨M, d, e, Q3, hm, ht, hd, he, q, k⟩ := h
  unfold inDD at q
  split at q
  · obtain ⟨s1, s2, q⟩ := q
    exact .inl ⟨d, _, hd.dp (lay_of_shaped s1), he.dp (lay_of_shaped s2), s1, s2, k _ _ _ q (ExtN.refl H) ht (.bl _)⟩
  · obtain ⟨s1, s2, q⟩ := q
    exact .inr ⟨d, _, hd.dp (lay_of_shaped s1), he.dp (lay_of_shaped s2), s1, s2, k _ _ _ q (ExtN.refl H) ht (.bl _)⟩
  · exact q.elim
theorem op_notInDD (hu : X.A.units + 65 < cLine) : OpR X (compareOp .NotIn) (rD (pm X T) notInDD) := OpRimp ((op_notInD hu).or (op_notInTup hu)) fun x y H Q h => by
  obtain ⟨M, d, e, Q3, hm, ht, hd, he, q, k⟩ := h
  unfold notInDD at q
  split at q
  · obtain ⟨s1, s2, q⟩ := q
    exact .inl ⟨d, _, hd.dp (lay_of_shaped s1), he.dp (lay_of_shaped s2), s1, s2, k _ _ _ q (ExtN.refl H) ht (.bl _)⟩
  · obtain ⟨s1, s2, q⟩ := q
    exact .inr ⟨d, _, hd.dp (lay_of_shaped s1), he.dp (lay_of_shaped s2), s1, s2, k _ _ _ q (ExtN.refl H) ht (.bl _)⟩
  · exact q.elim
/-! ### list(range(..)) -/
def wListRg1 (a : W) : W := fun ρ Q X => a ρ (fun r => r.wk fun x => match x with
  | .int n => (-1000000 ≤ n ∧ n ≤ 16777216) ∧ Q (.fr (rgD 0 n))
  | _ => False) X
def wListRg2 (a b : W) : W := fun ρ Q X => a ρ (fun r => r.wk fun x => b ρ (fun s => s.wk fun y => match x, y with
  | .int i, .int j => (0 ≤ i ∧ i ≤ 16777216 ∧ 0 ≤ j ∧ j ≤ 16777216) ∧ Q (.fr (rgD i j))
  | _, _ => False) X) X
theorem rgV_D {K : PySem.W.Frag} {M : Ad} {H : Hp} {i j : Int} : DMs K M H (rgV i j) (rgD i j) := by
  unfold rgV rgD
  generalize (j - i).toNat = n
  induction n with
  | zero => exact .nil
  | succ n ih =>
    rw [List.range_succ, List.map_append, List.map_append]
    exact ih.append (.cons (.int _) .nil)
theorem ev_listRg1 {wa : W} {p2 pos2 : Pos} (hc : X.calm = true) (hg : Gl X "list") (hm : X.mg "list" = none) (hg2 : Gl X "range") (hm2 : X.mg "range" = none) (ha : PE X a (lift (pm X T) E wa)) (na : starEach [a] X.env = (false, eval a X.env) :: starEach [] X.env := by rfl)
    (na2 : starEach [.Call (.Name "range" p2) [a] [] pos2] X.env = (false, eval (.Call (.Name "range" p2) [a] [] pos2) X.env) :: starEach [] X.env := by rfl) :
    PE X (.Call (.Name "list" p) [.Call (.Name "range" p2) [a] [] pos2] [] pos) (lift (pm X T) E (wListRg1 wa)) := by
  refine PEimp (pe_listRg hc hg hm (prg_1 hg2 hm2 ha na) na2) fun σ H Q ⟨H0, M0, M, ρ, XW, Q3, re, xo, q, k⟩ => ?_
  refine ⟨H0, M0, M, ρ, XW, _, re, xo, q, fun r v H1 qr e1 t1 rr => ?_⟩
  obtain ⟨x, hx, qx⟩ := rr.weak qr
  cases x with
  | int n =>
    obtain ⟨⟨c1, c2⟩, qx⟩ := qx
    exact ⟨n, hx.int, ⟨by decide, by decide, by omega, by omega, by omega⟩, fun p np => k _ _ _ qx (e1.trans (ext_new np)) (tabs_new t1 np) (lst_new e1 np rgV_D)⟩
  | _ => exact qx.elim
theorem ev_listRg2 {wa wb : W} {p2 pos2 : Pos} (hc : X.calm = true) (hg : Gl X "list") (hm : X.mg "list" = none) (hg2 : Gl X "range") (hm2 : X.mg "range" = none) (ha : PE X a (lift (pm X T) E wa)) (hb : PE X b (lift (pm X T) E wb)) (na : starEach [a, b] X.env = (false, eval a X.env) :: starEach [b] X.env := by rfl) (nb : starEach [b] X.env = (false, eval b X.env) :: starEach [] X.env := by rfl) (hpl : (backTo pos2 (starEach [b] X.env)).any (·.1) = false := by rfl)
    (na2 : starEach [.Call (.Name "range" p2) [a, b] [] pos2] X.env = (false, eval (.Call (.Name "range" p2) [a, b] [] pos2) X.env) :: starEach [] X.env := by rfl) :
    PE X (.Call (.Name "list" p) [.Call (.Name "range" p2) [a, b] [] pos2] [] pos) (lift (pm X T) E (wListRg2 wa wb)) := by
  refine PEimp (pe_listRg hc hg hm (prg_2 hg2 hm2 ha hb na nb hpl) na2) fun σ H Q ⟨H0, M0, M, ρ, XW, Q3, re, xo, q, k⟩ => ?_
  refine ⟨H0, M0, M, ρ, XW, _, re, xo, q, fun r v H1 qr e1 t1 rr => ?_⟩
  obtain ⟨x, hx, qx⟩ := rr.weak qr
  have re1 := re.grow e1 t1
  refine ⟨H0, M0, M, ρ, XW, _, re1, xo.grow e1, qx, fun s u H2 qs e2 t2 rs => ?_⟩
  obtain ⟨y, hy, qy⟩ := rs.weak qs
  split at qy
  · obtain ⟨⟨c1, c2, c3, c4⟩, qy⟩ := qy
    exact ⟨_, _, hx.int, hy.int, RgOk.of_le c1 c4 c2 c3, fun p np => k _ _ _ qy ((e1.trans e2).trans (ext_new np)) (tabs_new t2 np) (lst_new (e1.trans e2) np rgV_D)⟩
  · exact qy.elim
/-! ### repr -/
def reprD : OpL := fun xs k => match xs with
  | [x] => (SeqAt.shaped x = true ∧ x.showable = true ∧ x.shown.length ≤ sizeLine) ∧ k (.d (.str x.shown))
  | _ => False
theorem depth_of_shaped {d : PyData} (h : SeqAt.shaped d = true) : d.depth ≤ 64 := by
  unfold SeqAt.shaped at h
  rw [Bool.and_eq_true] at h
  exact of_decide_eq_true h.2
theorem cr_repr {kk : Nat} (hgd : X.A.guards = some []) (hr : Room kk X.A) : CallR X (.builtin "repr") (rDs (pm X T) reprD) := fun pins s σ H xs us Q I r h => by
  obtain ⟨M, ds, Q3, hm, ht, hp, q, k⟩ := h
  unfold reprD at q
  split at q
  · obtain ⟨⟨c1, c2, c3⟩, q⟩ := q
    obtain ⟨v, rfl, hv⟩ := one_of hp
    obtain ⟨u, rfl, ru⟩ := r.one
    have fin := k _ _ _ q (ExtN.refl H) ht (.str _)
    have lay := lay_of_shaped c1
    obtain ⟨as, rd⟩ := Dp.reads I _ v u (hv.dp lay) ru
    have hd := depth_of_shaped c1
    have hu := hr.un
    have big : ∀ {a : Addr} {d : PyData} {as : List Addr}, Reads s.heap (.ref a) d as → d.canLay0 = true → d.showable = true → d.shown.length ≤ sizeLine → d.depth ≤ 64 → Q (.str d.shown) H → wpAny (model X.prog X.w) X.A (call (.builtin "repr") [.ref a]) (EP X pins σ Q) X.xe s := by
      intro a d as rd lay sh sz dp fin
      exact repr_of_reads' rd sh (PyData.noDict_hsm (PyData.hasDict_of_canLay d lay)) hgd (by omega) (fun _ _ z => z) (fun h' t' tk hk => ⟨.str _, H, I.kept hk, ⟨_, rfl⟩, fin⟩) sz
    rename_i x
    cases x with
    | none =>
      cases rd
      rw [PyData.shown] at fin
      exact PySem.P.repr_of_none ⟨.str "None", H, I.tok _, ⟨_, rfl⟩, fin⟩
    | bool b =>
      cases rd
      rw [PyData.shown] at fin
      exact PySem.P.repr_of_bool ⟨.str (if b then "True" else "False"), H, I.tok _, ⟨_, rfl⟩, fin⟩
    | int i =>
      cases rd
      rw [PyData.shown] at fin
      exact PySem.P.repr_of_int (by simpa [PyData.showable] using c2) ⟨.str (toString i), H, I.tok _, ⟨_, rfl⟩, fin⟩
    | str z =>
      cases rd
      rw [PyData.shown] at fin c3
      exact PySem.P.repr_of_str ⟨.str (reprText z), H, I.tok _, ⟨_, rfl⟩, fin⟩ c3
    | list zs =>
      cases rd with
      | list a1 a2 a3 a4 => exact big (.list a1 a2 a3 a4) lay c2 c3 hd fin
    | tuple zs =>
      cases rd with
      | tuple a1 a2 a3 a4 => exact big (.tuple a1 a2 a3 a4) lay c2 c3 hd fin
    | dict zs => simp [PyData.canLay0] at lay
  · exact q.elim
/-! ### names of the module -/
theorem ev_gi {x : Str} {i : Int} (hg : Gl X x) (h : ∃ t, X.mg x = some (.int i t)) (hd : (x == ("__debug__" : Str)) = false := by decide) : PE X (.Name x pos) (lift (pm X T) E (wC (.int i))) := by
  obtain ⟨t, h⟩ := h
  exact ev_c (v := .int i) (pe_glob hg h ⟨t, rfl⟩ hd) fun _ _ _ => .int i
theorem ev_gs {x z : Str} (hg : Gl X x) (h : ∃ t, X.mg x = some (.str z t)) (hd : (x == ("__debug__" : Str)) = false := by decide) : PE X (.Name x pos) (lift (pm X T) E (wC (.str z))) := by
  obtain ⟨t, h⟩ := h
  exact ev_c (v := .str z) (pe_glob hg h ⟨t, rfl⟩ hd) fun _ _ _ => .str z
theorem es_raiseE {x : Str} {pos2 : Pos} (hc : X.calm = true) (tk : Takes X (fun cls d _ H => E cls d H)) (h : ∃ C, ExC X.K X.mg x C) (hg : Gl X x) (hdb : (x == ("__debug__" : Str)) = false := by decide) :
    PS X (.Raise (some (.Call (.Name x p) [] [] pos)) none pos2) (liftS (pm X T) E (wRaise x)) := by
  obtain ⟨C, h⟩ := h
  exact es_raise hc tk h hg hdb
end
end T3
set_option linter.all false
set_option maxRecDepth 100000
set_option maxHeartbeats 2000000
set_option Elab.async false
/-! T11: a tuple times a small number, whatever it is. -/
namespace T3
open L2 LamX PySem PyProof.Rows PySem.Spec
theorem tuple_mul_same (l : Addr) (items : Array Value) (n : Nat) (dd : Option Addr) (sl : Array (Option Value)) (x : Int) (u : Tok) (c0 : (decide (x < -(2 ^ 63)) || decide (x ≥ 2 ^ 63)) = false) (c1 : (items.isEmpty || x == 1) = true) :
    Meets (Builtin.«tuple.__mul__» ⟨[.ref l, .int x u], []⟩) (fun _ R s => s.heap.get? l = some { cls := .type "tuple", dict := dd, data := .seq items n, slots := sl } ∧ R (.ok (.ret (Value.ref l))) s) :=
  .of_wp fun prog w A R s h => by
    obtain ⟨hp, g, d, tk, os⟩ := s
    obtain ⟨hl, h⟩ := h
    have f1 := AutoSeq1.idx_int
    wp_walk using wpAny_loadPart' hl
    repeat (first
      | (refine wpAny_ite_false (decide_eq_false (by rw [c0]; exact Bool.false_ne_true)) ?_; wp_walk using wpAny_loadPart' hl)
      | (refine wpAny_ite_true (decide_eq_true c1) ?_; wp_walk using wpAny_loadPart' hl))
    exact ⟨_, rfl, h⟩
theorem tuple_mul_none (l : Addr) (items : Array Value) (n : Nat) (dd : Option Addr) (sl : Array (Option Value)) (x : Int) (u : Tok) (c0 : (decide (x < -(2 ^ 63)) || decide (x ≥ 2 ^ 63)) = false) (c1 : (items.isEmpty || x == 1) = false) (c2 : (decide (x ≤ 0) || items.isEmpty) = true) :
    Meets (Builtin.«tuple.__mul__» ⟨[.ref l, .int x u], []⟩) (fun _ R s => s.heap.get? l = some { cls := .type "tuple", dict := dd, data := .seq items n, slots := sl } ∧
      R (.ok (.ret (Value.ref s.heap.objs.size))) { s with heap := s.heap.push { cls := Value.type "tuple", data := Data.seq #[] }, toks := s.toks }) :=
  .of_wp fun prog w A R s h => by
    obtain ⟨hp, g, d, tk, os⟩ := s
    obtain ⟨hl, h⟩ := h
    have f1 := AutoSeq1.idx_int
    wp_walk using wpAny_loadPart' hl
    repeat (first
      | (refine wpAny_ite_false (decide_eq_false (by rw [c0]; exact Bool.false_ne_true)) ?_; wp_walk using wpAny_loadPart' hl)
      | (refine wpAny_ite_false (decide_eq_false (by rw [c1]; exact Bool.false_ne_true)) ?_; wp_walk using wpAny_loadPart' hl)
      | (refine wpAny_ite_true (decide_eq_true c2) ?_; wp_walk using wpAny_loadPart' hl))
    exact ⟨_, rfl, h⟩
def rRepT1 (K : PySem.W.Frag) : R2 := fun x y H Q => ∃ l k xs, x = .ref l ∧ y = .int k ∧ SqT K H l xs ∧ -(2 ^ 63) ≤ k ∧ k ≤ 1000 ∧ xs.length ≤ 1000 ∧ (k = 1 ∨ xs = [] → Q (.ref l) H) ∧ ((k ≤ 0 ∨ (2 ≤ k)) → xs ≠ [] → ∀ p, H p = none → Q (.ref p) (upd H p (.tup (List.replicate k.toNat xs).flatten)))
section
variable {X : Cx}
theorem op_repT1 : OpR X (binaryOp .Mult) (rRepT1 X.K) := by
  intro pins s σ H x y v u Q I rx ry h
  obtain ⟨l, k, xs, rfl, rfl, hT, h1, h2, hz, q1, q2⟩ := h
  by_cases hbig : 2 ≤ k ∧ xs ≠ []
  · exact op_repT pins s σ H _ _ v u Q I rx ry ⟨l, k, xs, rfl, rfl, hT, hbig.2, hbig.1, h2, hz, q2 (.inr hbig.1) hbig.2⟩
  cases rx
  obtain ⟨t, rfl⟩ := ry
  obtain ⟨its, r, ⟨⟨cls, dd, data, sl⟩, ho, hc, n, hd⟩, hs⟩ := I.tuple hT
  simp only at hc hd
  subst hc hd
  have hle : its.length = xs.length := r.length.symm
  have c0 : (decide (k < -(2 ^ 63)) || decide (k ≥ 2 ^ 63)) = false := by
    rw [decide_eq_false (by omega), decide_eq_false (by omega)] <;> rfl
  by_cases he : k = 1 ∨ xs = []
  · have c1 : (its.toArray.isEmpty || k == 1) = true := by
      rcases he with he | he
      · subst he
        simp
      · subst he
        have : its = [] := List.eq_nil_of_length_eq_zero hle
        subst this
        rfl
    exact wpAny_binaryOp_repeat_ref (T := "tuple") (U := "int") (by decide) ⟨_, ho, rfl⟩ (fun s' => typeIs_int s' k t) noFill_tuple_mul F.fills_int_mul F.slot_int_rmul repeat_tuple F.slot_int_index.lookup
      (call_meets F.slot_int_rmul (typeIs_int s k t) F.entry_int_rmul (F.args_int_rmul_2 _ _) (int_rmul_tuple k t l its.toArray n dd sl)
        ⟨ho, rfl, ⟨_, ho, rfl⟩, call_meets F.slot_tuple_mul ⟨_, ho, rfl⟩ F.entry_tuple_mul (F.args_tuple_mul_2 _ _) (tuple_mul_same l its.toArray n dd sl k t c0 c1) ⟨ho, ⟨.ref l, _, I, rfl, q1 he⟩⟩⟩)
  · have hn : xs ≠ [] := fun e => he (.inr e)
    have hk : k ≤ 0 := by
      by_cases h2k : 2 ≤ k
      · exact (hbig ⟨h2k, hn⟩).elim
      · have : k ≠ 1 := fun e => he (.inl e)
        omega
    have hi : its.toArray.isEmpty = false := by
      cases its with
      | nil => exact absurd (List.eq_nil_of_length_eq_zero hle.symm) hn
      | cons a b => rfl
    have c1 : (its.toArray.isEmpty || k == 1) = false := by
      rw [hi, Bool.false_or]
      exact beq_eq_false_iff_ne.mpr (by omega)
    have c2 : (decide (k ≤ 0) || its.toArray.isEmpty) = true := by
      rw [decide_eq_true hk]
      rfl
    have hz : k.toNat = 0 := by omega
    refine wpAny_binaryOp_repeat_ref (T := "tuple") (U := "int") (by decide) ⟨_, ho, rfl⟩ (fun s' => typeIs_int s' k t) noFill_tuple_mul F.fills_int_mul F.slot_int_rmul repeat_tuple F.slot_int_index.lookup
      (call_meets F.slot_int_rmul (typeIs_int s k t) F.entry_int_rmul (F.args_int_rmul_2 _ _) (int_rmul_tuple k t l its.toArray n dd sl)
        ⟨ho, rfl, ⟨_, ho, rfl⟩, call_meets F.slot_tuple_mul ⟨_, ho, rfl⟩ F.entry_tuple_mul (F.args_tuple_mul_2 _ _) (tuple_mul_none l its.toArray n dd sl k t c0 c1 c2) ⟨ho, ?_⟩⟩)
    have q3 := q2 (.inl hk) hn
    rw [hz] at q3
    refine ⟨.ref s.heap.objs.size, _, I.laid (t' := s.toks) (o := .tup []) (fun b ob q => Heap.get?_push_of_some _ q) (Nat.le_refl _) ?_, rfl, q3 _ (I.hok.fresh (Nat.le_refl _))⟩
    exact ⟨by rw [sizeLine_eq]; exact Nat.zero_le _, [], .nil, IsTup.new _ _⟩
def mulDD : Op2 := fun x y k => match x, y with
  | .int i, .int j => (CMul i j ∨ CMulW i j) ∧ k (.d (.int (i * j)))
  | .list a, .int j => (-(2 ^ 63) ≤ j ∧ j < 2 ^ 63 ∧ a.length * j.toNat ≤ sizeLine) ∧ k (.fr (List.replicate j.toNat a).flatten)
  | .tuple a, .int j => (-(2 ^ 63) ≤ j ∧ j ≤ 1000 ∧ a.length ≤ 1000) ∧ k (.d (.tuple (List.replicate j.toNat a).flatten))
  | _, _ => False
theorem flat_nil {α : Type} : ∀ n : Nat, (List.replicate n ([] : List α)).flatten = []
  | 0 => rfl
  | n + 1 => by rw [List.replicate_succ, List.flatten_cons, flat_nil n]; rfl
theorem op_mulDD {T : List (Addr × Str)} : OpR X (binaryOp .Mult) (rD (pm X T) mulDD) := OpRimp (op_mul.or (op_mulW.or (op_rep.or op_repT1))) fun x y H Q h => by
  obtain ⟨M, d, e, Q3, hm, ht, hd, he, q, k⟩ := h
  unfold mulDD at q
  split at q
  · have w := k _ _ _ q.2 (ExtN.refl H) ht (.int _)
    rcases q.1 with c | c
    · exact .inl ⟨_, _, hd.int, he.int, c, w⟩
    · exact .inr (.inl ⟨_, _, hd.int, he.int, c, w⟩)
  · obtain ⟨a, vs, e1, l1, r1⟩ := hd.lst
    obtain ⟨⟨c1, c2, c3⟩, q⟩ := q
    refine .inr (.inr (.inl ⟨a, _, vs, e1, he.int, l1, c1, c2, by rw [r1.length]; exact c3, fun p np => ?_⟩))
    exact k _ _ _ q (ext_new np) (tabs_new ht np) (lst_new (ExtN.refl H) np (r1.rep _))
  · rename_i xs j
    obtain ⟨a, vs, e1, l1, r1⟩ := hd.tup
    obtain ⟨⟨c1, c2, c3⟩, q⟩ := q
    refine .inr (.inr (.inr ⟨a, _, vs, e1, he.int, l1.sq, c1, c2, by rw [r1.length]; exact c3, fun z => ?_, fun _ _ p np => ?_⟩))
    · refine k _ _ _ q (ExtN.refl H) ht ?_
      rcases z with z | z
      · subst z
        have e3 : (List.replicate (1 : Int).toNat xs).flatten = xs := by
          show (List.replicate 1 xs).flatten = xs
          rw [List.replicate_succ, List.replicate_zero, List.flatten_cons, List.flatten_nil, List.append_nil]
        rw [e3]
        exact .tup l1 r1
      · subst z
        cases r1
        rw [flat_nil]
        exact .tup l1 .nil
    · exact k _ _ _ q (ext_new np) (tabs_new ht np) (tup_new hm (ExtN.refl H) np (r1.rep _))
  · exact q.elim
end
end T3
set_option linter.all false
set_option maxRecDepth 100000
set_option maxHeartbeats 2000000
set_option Elab.async false
/-! T12: the hand's list in sight: the def that draws. -/
namespace T3
open L2 LamX PySem PyProof.Rows PySem.Spec
abbrev hv (c : Addr) (is : List Int) : List V := .ref c :: is.map V.int
/-- the code runs while the hand's list is a list -/
def tView (t : TS) : TS := fun D σ H => ∃ a c L, H a = some (HandO a c L) ∧ ∀ (h : Heap) (is : List Int), HandP a c L h → is.length = L → (∀ i ∈ is, 0 ≤ i) →
  t { nx := fun _ _ => False, rt := fun v H' => ∃ js : List Int, js.length = L ∧ (∀ i ∈ js, 0 ≤ i) ∧ H' a = some (.lst (hv c js)) ∧ D.rt v (upd H' a (HandO a c L)) } σ (upd H a (.lst (hv c is)))
theorem obj_hand {X : Cx} {pins : List (Addr × Obj)} {σ : St} {H : Hp} {s : Shared} {a c : Addr} {js : List Int} (I : Inv X pins σ H s) (h : H a = some (.lst (hv c js))) (h0 : ∀ i ∈ js, 0 ≤ i) (hl : js.length ≤ 8) :
    (∃ e, s.heap.get? a = some e) ∧ ObjOk X.prog X.w (upd H a (HandO a c js.length)) s.heap a (HandO a c js.length) := by
  obtain ⟨_, its, n, r, e⟩ := I.hok a _ h
  have r' : Vals (hv c js) its := r
  cases r' with
  | cons e0 r1 =>
  cases e0
  have hp : HandP a c js.length s.heap := ⟨js, _, n, e, r1, rfl, hl, h0⟩
  refine ⟨⟨_, e⟩, hp, ⟨_, e⟩, fun h1 h2 ⟨is, us, n, q, z⟩ k => ⟨is, us, n, k _ q, z⟩⟩
theorem inv_hand {X : Cx} {pins : List (Addr × Obj)} {σ : St} {H : Hp} {s : Shared} {a c : Addr} {js : List Int} (I : Inv X pins σ H s) (h : H a = some (.lst (hv c js))) (h0 : ∀ i ∈ js, 0 ≤ i) (hl : js.length ≤ 8) : Inv X pins σ (upd H a (HandO a c js.length)) s := by
  obtain ⟨e, new⟩ := obj_hand I h h0 hl
  exact I.write (x := a) (e := a) (t' := s.toks) (h' := s.heap) (by rw [h]; exact True.intro) (.inl rfl) (fun b v _ q => q) e new
theorem pss_view {X : Cx} {ss : List Stmt} {t : TS} (h : PSs X ss t) : PSs X ss (tView t) := by
  refine ⟨fun pins s σ H D I ⟨a, c, L, ha, hw⟩ => ?_⟩
  have x := I.hok a _ ha
  obtain ⟨hp, _, _⟩ := x
  have hp' : HandP a c L s.heap := hp
  obtain ⟨is, us, n, e, z1, z2, z3, z4⟩ := id hp'
  have new : ObjOk X.prog X.w (upd H a (.lst (hv c is))) s.heap a (.lst (hv c is)) :=
    ⟨by rw [sizeLine_eq]; show (is.map V.int).length + 1 ≤ _; rw [List.length_map]; omega, _, n, .cons rfl z1, e⟩
  have I1 : Inv X pins σ (upd H a (.lst (hv c is))) s := I.write (x := a) (e := a) (t' := s.toks) (h' := s.heap) (by rw [ha]; exact True.intro) (.inl rfl) (fun b v _ q => q) ⟨_, e⟩ new
  refine thn (h.run pins s σ _ _ I1 (hw s.heap is hp' z2 z4)) fun f s1 q => ?_
  cases f with
  | next => obtain ⟨σ', H', I2, q⟩ := q; exact q.elim
  | brk => obtain ⟨σ', H', I2, q⟩ := q; exact False.elim q
  | cont => obtain ⟨σ', H', I2, q⟩ := q; exact False.elim q
  | ret v =>
    obtain ⟨x, σ', H', I2, r, js, j1, j0, e, q⟩ := q
    have I3 := inv_hand I2 e j0 (by omega)
    rw [j1] at I3
    exact ⟨x, σ', _, I3, r, q⟩

/-! ### statements while it is in sight: where it lies is kept -/
/-- the hand lies at a, its cells at c -/
def HAt (a c : Addr) (σ : St) (H : Hp) : Prop := σ[0]? = some (some (.ref a)) ∧ ∃ is, H a = some (.lst (.ref c :: is))
theorem HAt.ext {a c : Addr} {σ : St} {H H' : Hp} (e : ExtN H H') (h : HAt a c σ H) : HAt a c σ H' := ⟨h.1, h.2.imp fun is q => e _ _ q (fun ps z => by cases z)⟩
/-- D3.bk: what the slots must be where the code returns -/
structure EndsH (P : Pm) (a c : Addr) (H0 : Hp) (D3 : End3) (D : Ends) : Prop where
  nx : ∀ ρ' M' H' σ', D3.nx ρ' → RE P H0 (fun _ => False) M' H' σ' ρ' → HAt a c σ' H' → D.nx σ' H'
  rt : ∀ r ρ' M' v H' σ', D3.rt r → D3.bk ρ' → RE P H0 (fun _ => False) M' H' σ' ρ' → HAt a c σ' H' → RR P.K M' H' H' v r → D.rt v H'
def liftH (P : Pm) (w : WS) : TS := fun D σ H => ∃ a c H0 M ρ D3, RE P H0 (fun _ => False) M H σ ρ ∧ HAt a c σ H ∧ w D3 ρ noX ∧ EndsH P a c H0 D3 D
/-- return e: the slots as they then are -/
def wRetH (w : W) : WS := fun D ρ X => w ρ (fun r => match r with | .d (.int n) => D.rt (.d (.int n)) ∧ D.bk ρ | _ => False) X
/-- hand[k] = v, k not 0 -/
def wSetIxH (wi wv : W) : WS := fun D ρ X => wv ρ (fun r => r.st fun y => ∃ xs, ρ[0]? = some (some (.own xs)) ∧ wi ρ (fun s => s.wk fun t => match t with
  | .int k => ∃ j, ixN xs.length k = some (j + 1) ∧ D.nx (ρ.set 0 (some (.own (xs.set (j + 1) y))))
  | _ => False) X) X
section
variable {X : Cx} {T : List (Addr × Str)} {E : XK} {e a b : Expr} {pos p : Pos}
theorem noXO {P : Pm} {M : Ad} {H : Hp} : XOk P E noX M H := fun _ _ _ _ h => False.elim h
theorem hs_nil : PSs X [] (liftH (pm X T) wNext) := PSsimp pss_nil fun D σ H ⟨a, c, H0, M, ρ, D3, re, h0, q, k⟩ => k.nx ρ M H σ q re h0
theorem hs_cons {st : Stmt} {rest : List Stmt} {t u : WS} (h1 : PS X st (liftH (pm X T) t)) (h2 : PSs X rest (liftH (pm X T) u)) : PSs X (st :: rest) (liftH (pm X T) (wSeq t u)) :=
  PSsimp (pss_cons h1 h2) fun D σ H ⟨a, c, H0, M, ρ, D3, re, h0, q, k⟩ => ⟨a, c, H0, M, ρ, _, re, h0, q, fun ρ' M' H' σ' q' re' h' => ⟨a, c, H0, M', ρ', D3, re', h', q', k⟩, k.rt⟩
theorem hs_one {st : Stmt} {t : WS} (h1 : PS X st (liftH (pm X T) t)) : PSs X [st] (liftH (pm X T) t) := pss_one h1
theorem hs_if {c : Expr} {sa sb : List Stmt} {wc : WB} {wa wb : WS} (hc : PT X c (liftB (pm X T) E0 wc)) (ha : PSs X sa (liftH (pm X T) wa)) (hb : PSs X sb (liftH (pm X T) wb)) : PS X (.If c sa sb pos) (liftH (pm X T) (wIfS wc wa wb)) :=
  PSimp (ps_if hc ha hb) fun D σ H ⟨a, c, H0, M, ρ, D3, re, h0, q, k⟩ => ⟨H0, _, M, ρ, noX, _, re, noXO, q, fun z H1 qc e1 t1 => by
    cases z with
    | true => exact ⟨a, c, H0, M, ρ, D3, re.grow e1 t1, h0.ext e1, qc, k⟩
    | false => exact ⟨a, c, H0, M, ρ, D3, re.grow e1 t1, h0.ext e1, qc, k⟩⟩
theorem hs_ret {w : W} (he : PE X e (lift (pm X T) E0 w)) : PS X (.Return (some e) pos) (liftH (pm X T) (wRetH w)) := by
  refine PSimp (ps_ret he) fun D σ H ⟨a, c, H0, M, ρ, D3, re, h0, q, k⟩ => ?_
  refine ⟨H0, _, M, ρ, noX, _, re, noXO, q, fun r v H1 qr e1 t1 rr => ?_⟩
  split at qr
  · exact k.rt _ ρ M v H1 σ qr.1 qr.2 (re.grow e1 t1) (h0.ext e1) rr
  · exact qr.elim
/-- a name of its own, but not the hand's -/
theorem hs_set {i : Nat} {x : Str} {w : W} {pos' : Pos} (hz : i ≠ 0) (hN : X.N.Nodup) (hi : X.N[i]? = some x) (hx : Loc X.env.scope x) (he : PE X e (lift (pm X T) E0 w)) (hs : swapsWith e (some (.Name x pos')) pos.line X.env = pure false := by rfl) (hf : X.fn x = true ∨ X.env.scope.names.lookup x = some .local := by first | exact .inl rfl | exact .inr rfl | assumption) :
    PS X (.Assign [.Name x pos'] e pos) (liftH (pm X T) (wSet i w)) := PSimp (ps_set hN hi hx he hs hf) fun D σ H ⟨a, c, H0, M, ρ, D3, re, h0, q, k⟩ => by
  refine ⟨H0, _, M, ρ, noX, _, re, noXO, q, fun r v H1 qr e1 t1 rr => ?_⟩
  obtain ⟨z, hz', qz⟩ := rr.arg re.mdom qr
  exact k.nx _ M H1 _ qz ((re.grow e1 t1).set i hz') ⟨by rw [List.getElem?_set_ne hz]; exact h0.1, (h0.ext e1).2⟩
theorem hs_setIx {wi wv : W} {v : Expr} {spos : Pos} (hv : PE X v (lift (pm X T) E0 wv)) (ho : PE X a (tVar 0)) (hk : PE X b (lift (pm X T) E0 wi))
    (ha : ∀ v, assign (.Subscript a b spos) X.env v = (do
      let ov ← holding [v] (eval a X.env)
      let iv ← holding [v, ov] (eval b X.env)
      standAt spos
      holding [v, ov, iv] (setItem ov iv v)
      release [v, ov, iv] []) := by intro _; rfl)
    (hs : swapsWithSole [.Subscript a b spos] v pos.line X.env = pure false := by rfl) (hw : swappedStores [.Subscript a b spos] v X.env = pure none := by rfl)
    (h1 : (assignEach [.Subscript a b spos] X.env).map (·.2) = [assign (.Subscript a b spos) X.env] := by rfl) :
    PS X (.Assign [.Subscript a b spos] v pos) (liftH (pm X T) (wSetIxH wi wv)) := by
  refine PSimp (ps_asg hv (pg_sub ho hk set_list ha) hs hw h1) fun D σ H ⟨a, c, H0, M, ρ, D3, re, h0, q, k⟩ => ?_
  refine ⟨H0, _, M, ρ, noX, _, re, noXO, q, fun r u H1 qr e1 t1 rr => ?_⟩
  obtain ⟨y, hy, xs, hx, qy⟩ := rr.strong re.mdom qr
  have re1 := re.grow e1 t1
  obtain ⟨v', h1, p, vs, rfl, m, hp, hd⟩ := re1.slot 0 _ hx
  refine ⟨_, h1, H0, _, M, ρ, noX, _, re1, noXO, qy, fun s w H2 qs e2 t2 rs => ?_⟩
  obtain ⟨t, ht, qt⟩ := rs.weak qs
  have re2 := re1.grow e2 t2
  have hp2 : H2 p = some (.lst vs) := e2 _ _ hp (fun ps q => by cases q)
  cases t with
  | int n =>
    obtain ⟨j, hj, qj⟩ := qt
    obtain ⟨h00, is, h01⟩ := (h0.ext e1).ext e2
    rw [h00] at h1
    cases h1
    rw [hp2] at h01
    cases h01
    exact ⟨_, _, n, j + 1, rfl, ht.int, hp2, by rw [hd.length]; exact hj, k.nx _ M _ σ qj (re2.upd hx h00 ((DMs.fm (.of e2) hd).set (DM.fm (.of e2) hy) (j + 1))) ⟨h00, is.set j u, by rw [upd_same] <;> rfl⟩⟩
  | _ => exact qt.elim
end
/-- a draw: some number below many -/
def C_draw (L : Nat) : Ct := fun rs Q _ => ∃ m : Int, rs = [.hand L, .d (.int m)] ∧ 0 < m ∧ m < 1073741824 ∧ ∀ n : Int, 0 ≤ n → n < m → Q (.d (.int n))
def drawR (N : List Str) (ns is : List Int) (m : Int) : Env3 := some (.own (.list (ns.map .int) :: is.map .int)) :: some (.d (.int m)) :: List.replicate (N.length - 2) none
theorem dms_ints {K : PySem.W.Frag} {M : Ad} {H : Hp} : ∀ ns : List Int, DMs K M H (ns.map V.int) (ns.map PyData.int)
  | [] => .nil
  | n :: ns => .cons (.int n) (dms_ints ns)
theorem dms_ints_inv {K : PySem.W.Frag} {M : Ad} {H : Hp} : ∀ {ns : List Int} {vs : List V}, DMs K M H vs (ns.map PyData.int) → vs = ns.map V.int
  | [], _, h => by
    cases h
    rfl
  | n :: ns, _, h => by
    cases h with
    | cons a b =>
    cases a
    rw [dms_ints_inv b]
    rfl
theorem tabs_hand {T : List (Addr × Str)} {H : Hp} {a c : Addr} {L : Nat} {h : Heap} {vs : List V} (t : Tabs T H) (ha : H a = some (HandO a c L)) (hp : HandP a c L h) : Tabs T (upd H a (.lst vs)) := fun z hz => by
  obtain ⟨ps, h1, h2, h3⟩ := t z hz
  refine ⟨ps, ?_, h2, fun pos cv hc => ?_⟩
  · rw [upd_ne (ne_of h1 ha (fun q => by cases q))]
    exact h1
  · obtain ⟨c', e1, e2⟩ := h3 pos cv hc
    refine ⟨c', e1, ?_⟩
    rw [upd_ne (show c' ≠ a from fun w => by
      rw [w, ha] at e2
      have e3 : HandO a c L = CodeO a z.2 := Option.some.inj e2
      have e4 := congrFun (HO.ext.inj e3) h
      obtain ⟨oc, us, tk, q1, q2, _⟩ := e4.mp hp
      obtain ⟨is, us, n, q, _⟩ := hp
      rw [q] at q1
      cases q1
      cases q2)]
    exact e2
theorem tabs_back {T : List (Addr × Str)} {H : Hp} {p : Addr} {vs : List V} {o : HO} (t : Tabs T H) (hp : H p = some (.lst vs)) : Tabs T (upd H p o) := fun z hz => by
  obtain ⟨ps, h1, h2, h3⟩ := t z hz
  refine ⟨ps, ?_, h2, fun pos cv hc => ?_⟩
  · rw [upd_ne (ne_of h1 hp (fun q => by cases q))]
    exact h1
  · obtain ⟨c, e1, e2⟩ := h3 pos cv hc
    refine ⟨c, e1, ?_⟩
    rw [upd_ne (ne_of e2 hp (fun q => by cases q))]
    exact e2
/-- the slots at the start of a draw -/
theorem re_draw {P : Pm} {H : Hp} {N : List Str} {a c : Addr} {L : Nat} {h : Heap} {ns is : List Int} {m : Int} (ht : Tabs P.T H) (ha : H a = some (HandO a c L)) (hc : H c = some (.lst (ns.map V.int))) (hp : HandP a c L h) :
    RE P (fun b => if b = a then none else H b) (fun _ => False) (fun b => b = a) (upd H a (.lst (hv c is))) (L2.start N [.ref a, .int m]) (drawR N ns is m) := by
  have ca : c ≠ a := fun z => by
    rw [z, ha] at hc
    cases hc
  have hs : L2.start N [.ref a, .int m] = some (.ref a) :: some (.int m) :: List.replicate (N.length - 2) none := rfl
  have hnone : ∀ (i : Nat) (k : Nat) (r : R), (List.replicate k (none : Option R))[i]? = some (some r) → False := fun i k r q => by
    rw [List.getElem?_replicate] at q
    split at q <;> cases q
  refine ⟨fun b o q nt => ?_, tabs_hand ht ha hp, fun _ z => z.elim, fun b hb z => ?_, fun b hb => .inr ?_, fun _ z => z.elim, fun i r q => ?_, fun i xs b q hσ => ?_, fun i j xs ys b hne q1 q2 hσ hσ2 => ?_, by rw [hs]; unfold drawR; simp⟩
  · by_cases hb : b = a
    · subst hb
      simp at q
    · simp only [if_neg hb] at q
      rw [upd_ne hb]
      exact q
  · subst hb
    obtain ⟨ps, w⟩ := z _ upd_same
    cases w
  · subst hb
    exact .of_none (by simp)
  · rw [hs]
    unfold drawR at q
    match i, q with
    | 0, q =>
      cases q
      refine ⟨_, rfl, a, _, rfl, rfl, upd_same, .cons (.lst ⟨ca, ?_⟩ (dms_ints ns)) (dms_ints is)⟩
      rw [upd_ne ca]
      exact hc
    | 1, q =>
      cases q
      exact ⟨_, rfl, .int m⟩
    | i + 2, q => exact (hnone i _ r q).elim
  · unfold drawR at q
    rw [hs] at hσ
    match i, q with
    | 0, q =>
      cases hσ
      exact .of_none (by simp)
    | 1, q => cases q
    | i + 2, q => exact (hnone i _ _ q).elim
  · unfold drawR at q1 q2
    match i, j, q1, q2 with
    | 0, 0, _, _ => exact hne rfl
    | 0, 1, _, q2 => cases q2
    | 0, j + 2, _, q2 => exact (hnone j _ _ q2).elim
    | 1, _, q1, _ => cases q1
    | i + 2, _, q1, _ => exact (hnone i _ _ q1).elim
/-- where a draw returns, the hand is one again -/
theorem draw_end {P : Pm} {H0 H : Hp} {M : Ad} {σ : St} {ρ : Env3} {a c : Addr} {ns js : List Int} (re : RE P H0 (fun _ => False) M H σ ρ) (h0 : HAt a c σ H) (h : ρ[0]? = some (some (.own (.list (ns.map .int) :: js.map .int)))) :
    H a = some (.lst (hv c js)) := by
  obtain ⟨h00, is, h01⟩ := h0
  obtain ⟨v, h1, p, vs, rfl, m, hp, hd⟩ := re.slot 0 _ h
  rw [h00] at h1
  cases h1
  rw [hp] at h01
  cases h01
  rw [hp]
  cases hd with
  | cons d0 r1 => rw [dms_ints_inv r1]
theorem cal_draw {g : Bool} {P : Program} {w : World} {K : PySem.W.Frag} {mg : Str → Option Value} {base : Heap} {T : List (Addr × Str)} {k L : Nat} {x : Str} {st : Stmt} {p1 p2 : Str} {N : List Str} {Pc : Value → Prop} {wb : WS} (D : Def K mg x st Pc) (S : FnScope N [p1, p2] (defScope st)) (hb : BindsBy x st [p1, p2])
    (hbody : ∀ (f : Addr) (cdv : Value) (A : Around) (outer : List Env) (s : Shared) (H : Hp) (E : XK), Pc cdv → Room k (A.deeper (envOfC x (defScope st) s.heap.objs.size f cdv)) →
      PSs (cxOf (L2.CX P w) P w K mg base N x (defScope st) f cdv A outer s H E) (defBody st) (liftH ⟨K, mg, T⟩ wb))
    (hpure : ∀ (ns is : List Int) (m : Int), is.length = L → (∀ i ∈ is, 0 ≤ i) → 0 < m → m < 1073741824 →
      wb { nx := fun _ => False, rt := fun r => ∃ n : Int, r = .d (.int n) ∧ 0 ≤ n ∧ n < m, bk := fun ρ => ∃ js : List Int, js.length = L ∧ (∀ i ∈ js, 0 ≤ i) ∧ ρ[0]? = some (some (.own (.list (ns.map .int) :: js.map .int))) } (drawR N ns is m) noX) :
    Cal g P w K mg base T (k + 1) x (C_draw L) := by
  obtain ⟨f, oc, od, kV, doc, pm, an, cdv, ct, osl, hm, lk, hc, hk, hpc⟩ := D.ex
  have hB := hb kV doc pm an cdv ct
  have len' : ∀ vs H Q E, spC ⟨K, mg, T⟩ (C_draw L) vs H Q E → vs.length = [p1, p2].length := fun vs H Q E ⟨M0, rs, Q3, X3, _, _, ra, ⟨m, e, _⟩, _⟩ => by
    rw [ra.length, e]
    rfl
  refine ⟨f, _, [p1, p2], ⟨len', fun A outer s H args us vs Q E hr hg e0 hb2 r hs => ?_⟩, .all hB, hk, hm⟩
  refine run_ofS lk hc S hr e0 hb2 r (len' _ _ _ _ hs) fun hr' => ⟨tView (liftH ⟨K, mg, T⟩ wb), pss_view (hbody f cdv A outer s H E hpc hr'), ?_⟩
  obtain ⟨M0, rs, Q3, X3, hm2, ht, ra, ⟨m, e, m0, m1, hQ3⟩, hQ, hE⟩ := hs
  subst e
  cases ra with
  | cons ra0 ra1 =>
  cases ra1 with
  | cons ra1 ra2 =>
  cases ra2
  obtain ⟨a, rfl, c, ns, ma, mc, ha, hcells⟩ := ra0
  cases ra1
  refine ⟨a, c, L, ha, fun h is hp z1 z2 => ?_⟩
  refine ⟨a, c, _, _, _, _, re_draw ht ha hcells hp, ⟨rfl, _, upd_same⟩, hpure ns is m z1 z2 m0 m1, fun ρ' M' H' σ' q re h => q.elim, fun r ρ' M' v H' σ' qr qb re hat rr => ?_⟩
  obtain ⟨n, rfl, n0, n1⟩ := qr
  obtain ⟨js, j1, j0, hρ⟩ := qb
  have hH := draw_end re hat hρ
  refine ⟨js, j1, j0, hH, ?_⟩
  cases rr
  refine hQ _ _ _ (hQ3 n n0 n1) (fun b o q nt => ?_) (tabs_back re.tabs hH) (.int n)
  by_cases hb : b = a
  · subst hb
    rw [upd_same, ← q, ha]
  · rw [upd_ne hb]
    exact re.ext b o (by simp only [if_neg hb]; exact q) nt
end T3
set_option linter.all false
set_option maxRecDepth 100000
set_option maxHeartbeats 2000000
set_option Elab.async false
/-! T13: the script cut; the def that makes the hand. -/
namespace T3
open L2 LamX PySem PyProof.Rows PySem.Spec
section
variable {X : Cx} {T : List (Addr × Str)} {E : XK} {e a b : Expr} {pos p : Pos}
/-- a part of the script -/
def wSlS (i : Nat) (lo hi : WO) : W := fun ρ Q X => ∃ ns : List Int, ρ[i]? = some (some (.scr ns)) ∧ lo ρ (fun l => hi ρ (fun h => Q (.fr ((cut ns l h).map .int))) X) X
theorem cut_map {α β : Type} (f : α → β) (xs : List α) (lo hi : Option Int) : cut (xs.map f) lo hi = (cut xs lo hi).map f := by
  unfold T3.cut
  rw [List.length_map, List.map_take, List.map_drop]
theorem cutV_ints (ns : List Int) (lo hi : Option Int) : cutV (ns.map V.int) lo hi = (cut ns lo hi).map V.int := by
  rw [← cut_map]
  rfl
theorem ev_slS {i : Nat} {lo hi : Option Expr} {wl wh : WO} {p2 : Pos} (he : PE X e (tVar i)) (hl : PO X lo (liftO (pm X T) E wl)) (hh : PO X hi (liftO (pm X T) E wh)) :
    PE X (.Subscript e (.Slice lo hi none p2) pos) (lift (pm X T) E (wSlS i wl wh)) := by
  refine PEimp (pe_slice sl_list he hl hh) fun σ H Q ⟨H0, M0, M, ρ, XW, Q3, re, xo, ⟨ns, hi, q⟩, k⟩ => ?_
  obtain ⟨v, h1, a, rfl, hs⟩ := re.slot i _ hi
  refine ⟨_, h1, H0, M0, M, ρ, XW, _, re, xo, q, fun l H2 ql e2 t2 => ?_⟩
  refine ⟨H0, M0, M, ρ, XW, _, re.grow e2 t2, xo.grow e2, ql, fun h H3 qh e3 t3 => ?_⟩
  have e13 := e2.trans e3
  refine ⟨a, _, rfl, (hs.fm (.of e13)).sq, fun p np => k _ _ _ qh (e13.trans (ext_new np)) (tabs_new t3 np) (lst_new e13 np ?_)⟩
  rw [cutV_ints]
  exact dms_ints _
end
/-- what is returned becomes the hand -/
def tMk (L : Nat) (t : TS) : TS := fun D σ H => t { nx := fun _ _ => False, rt := fun v H' => ∃ (a c : Addr) (js : List Int), v = .ref a ∧ H' a = some (.lst (hv c js)) ∧ js.length = L ∧ L ≤ 8 ∧ (∀ j ∈ js, 0 ≤ j) ∧ D.rt v (upd H' a (HandO a c L)) } σ H
theorem pss_mk {X : Cx} {ss : List Stmt} {t : TS} {L : Nat} (h : PSs X ss t) : PSs X ss (tMk L t) := by
  refine ⟨fun pins s σ H D I hw => ?_⟩
  refine thn (h.run pins s σ _ _ I hw) fun f s1 q => ?_
  cases f with
  | next => obtain ⟨σ', H', I2, q⟩ := q; exact q.elim
  | brk => obtain ⟨σ', H', I2, q⟩ := q; exact False.elim q
  | cont => obtain ⟨σ', H', I2, q⟩ := q; exact False.elim q
  | ret v =>
    obtain ⟨x, σ', H', I2, r, a, c, js, rfl, e, j1, j2, j0, q⟩ := q
    have I3 := inv_hand I2 e j0 (by omega)
    rw [j1] at I3
    exact ⟨_, σ', _, I3, r, q⟩
def C_hand (L : Nat) : Ct := fun rs Q _ => ∃ ns : List Int, rs = [.scr ns] ∧ ns.length ≤ 63 ∧ Q (.hand L)
theorem cal_hand {g : Bool} {P : Program} {w : World} {K : PySem.W.Frag} {mg : Str → Option Value} {base : Heap} {T : List (Addr × Str)} {k : Nat} {x : Str} {st : Stmt} {p1 : Str} {N : List Str} {Pc : Value → Prop} {wb : WS} (L : Nat) (hL : L ≤ 8) (D : Def K mg x st Pc) (S : FnScope N [p1] (defScope st)) (hb : BindsBy x st [p1])
    (hbody : ∀ (f : Addr) (cdv : Value) (A : Around) (outer : List Env) (s : Shared) (H : Hp) (E : XK), Pc cdv → Room k (A.deeper (envOfC x (defScope st) s.heap.objs.size f cdv)) →
      PSs (cxOf (L2.CX P w) P w K mg base N x (defScope st) f cdv A outer s H E) (defBody st) (liftS ⟨K, mg, T⟩ E wb))
    (hpure : ∀ (ns : List Int), ns.length ≤ 63 → wb { nx := fun _ => False, rt := fun r => ∃ ms js : List Int, r = .fr (.list (ms.map .int) :: js.map .int) ∧ js.length = L ∧ ∀ j ∈ js, 0 ≤ j } (startR N [.scr ns]) noX) :
    Cal g P w K mg base T (k + 1) x (C_hand L) := by
  obtain ⟨f, oc, od, kV, doc, pm, an, cdv, ct, osl, hm, lk, hc, hk, hpc⟩ := D.ex
  have hB := hb kV doc pm an cdv ct
  have len' : ∀ vs H Q E, spC ⟨K, mg, T⟩ (C_hand L) vs H Q E → vs.length = [p1].length := fun vs H Q E ⟨M0, rs, Q3, X3, _, _, ra, ⟨m, e, _⟩, _⟩ => by
    rw [ra.length, e]
    rfl
  refine ⟨f, _, [p1], ⟨len', fun A outer s H args us vs Q E hr hg e0 hb2 r hs => ?_⟩, .all hB, hk, hm⟩
  refine run_ofS lk hc S hr e0 hb2 r (len' _ _ _ _ hs) fun hr' => ⟨tMk L (liftS ⟨K, mg, T⟩ E wb), pss_mk (hbody f cdv A outer s H E hpc hr'), ?_⟩
  obtain ⟨M0, rs, Q3, X3, hm2, ht, ra, ⟨ns, e, hn, hQ3⟩, hQ, hE⟩ := hs
  subst e
  refine ⟨H, M0, M0, startR N [.scr ns], noX, _, re_start hm2 ht ra, hpure ns hn, fun ρ' M' H' σ' q re => q.elim, fun _ _ _ _ q _ => q.elim, fun _ _ _ _ q _ => q.elim, fun _ _ _ _ z => z.elim, fun r v H' q e t rr => ?_⟩
  obtain ⟨ms, js, rfl, j1, j0⟩ := q
  obtain ⟨p, vs, rfl, o, hp, hd⟩ := rr
  cases hd with
  | cons d0 r1 =>
  cases d0 with
  | lst l0 r0 =>
  rename_i c cs
  have e1 := dms_ints_inv r1
  subst e1
  have e2 := dms_ints_inv r0
  subst e2
  have hpe : ∀ b o', H b = some o' → (∀ ps, o' ≠ .tbl ps) → b ≠ p := fun b o' q nt z => by
    rw [z] at q
    obtain ⟨ps, w⟩ := o _ q
    exact nt ps w
  refine ⟨p, c, js, rfl, hp, j1, hL, j0, hQ _ _ _ hQ3 (fun b o' q nt => ?_) (tabs_back t hp) ⟨p, rfl, c, ms, fun z => hm2 p z o, fun z => l0.1 (.inl z), upd_same, ?_⟩⟩
  · rw [upd_ne (hpe b o' q nt)]
    exact e b o' q nt
  · rw [upd_ne (fun z => l0.1 (.inr z))]
    exact l0.2
end T3
set_option linter.all false
set_option maxRecDepth 100000
set_option maxHeartbeats 2000000
set_option Elab.async false
/-! T14: the end of a law: its def asked at a script, the head by facts. -/
namespace T3
open L2 LamX PySem PyProof.Rows PySem.Spec
/-- what is tracked where the law is asked: the tables, and the script if the top's fragment does not tell it -/
def hp0 (K : PySem.W.Frag) (tb : List Addr) (a : Addr) (o : Obj) (vs : List V) : Hp := fun b => if b ∈ tb then some (.tbl #[]) else if b = a ∧ K.lookup a = none then some (.frz o (.lst vs)) else none
theorem law_run {P : Program} {w : World} {K : PySem.W.Frag} {mg mb : Str → Option Value} {k : Nat} {fa a : Addr} {cs : List (Addr × Addr)} {T : List (Addr × Str)} {fd : FuncData} {x : Str} {C : Ct} {s : Shared} {us : List Value} {ns : List Int}
    (inK : K.In s.heap) (nsG : s.heap.Ns mainGlobals mg) (nsB : s.heap.Ns builtinsNs mb) (boot : ∀ y : Str, y ≠ "__name__" → mb y = bootBuiltins y) (nolim : s.heap.NoLimit) (nogen : s.gens = #[])
    (tabE : ∀ q ∈ cs, s.heap.get? q.2 = some { cls := .none, data := .fields #[] }) (tabK : ∀ q ∈ cs, K.lookup q.2 = none) (tabC : ∀ q ∈ cs, PySem.W.CodeHd s.heap q.1 q.2)
    (bmain : ∃ (bm : Addr) (ob : Obj), mg "__builtins__" = some (.ref bm) ∧ bm ≠ builtinsNs ∧ s.heap.get? bm = some ob ∧ ob.cls = .type "module" ∧ ob.dict = some builtinsNs ∧ ob.data = .plain)
    (scrO : s.heap.get? a = some { cls := .type "list", data := .seq us.toArray }) (scrI : IntsAre us ns) (scrL : ns.length ≤ sizeLine) (room : Room k callerA)
    (ok : ∀ base : Heap, K.In base → base.Ns mainGlobals mg → (∀ q ∈ cs, TabB base mg q.1 q.2) → FnG true P w K mg base k fa fd [x] (spC ⟨K, mg, T⟩ C)) (bnd : ∀ (s : Shared) (u : Value), BindsTo s fd ⟨[u], []⟩ [(x, u)])
    (inT : ∀ t ∈ T, ∃ q ∈ cs, q.2 = t.1) (hC : C [.scr ns] (fun r => r = .d (.bool true)) noX) :
    codeAny (model P w) callerA (.call (.ref fa) ⟨[.ref a], []⟩) (fun r t => r = .ok (.ret (.bool true)) ∧ OldK s.heap t.heap ∧ t.os = s.os ∧ AllBare t.gens) s := by
  have rel := vals_ints scrI
  have tb : ∃ l : List Addr, l = cs.map (·.2) := ⟨_, rfl⟩
  obtain ⟨tb, etb⟩ := tb
  have inTb : ∀ q ∈ cs, q.2 ∈ tb := fun q hq => by rw [etb]; exact List.mem_map.mpr ⟨q, hq, rfl⟩
  have ofTb : ∀ b ∈ tb, ∃ q ∈ cs, q.2 = b := fun b hb => by rw [etb] at hb; exact List.mem_map.mp hb
  have tbO : ∀ b ∈ tb, s.heap.get? b = some { cls := .none, data := .fields #[] } := fun b hb => by
    obtain ⟨q, hq, e⟩ := ofTb b hb
    subst e
    exact tabE q hq
  have aTb : a ∉ tb := fun z => by
    have q := tbO a z
    rw [scrO] at q
    cases q
  have sO : ∃ o : Obj, o = { cls := .type "list", data := .seq us.toArray } := ⟨_, rfl⟩
  obtain ⟨o, eo⟩ := sO
  have S : ∃ S : Hp, S = hp0 K tb a o (ns.map V.int) := ⟨_, rfl⟩
  obtain ⟨S, eS⟩ := S
  have S_tb : ∀ b ∈ tb, S b = some (.tbl #[]) := fun b hb => by
    rw [eS]
    exact if_pos hb
  have S_cases : ∀ b u, S b = some u → (b ∈ tb ∧ u = .tbl #[]) ∨ (b = a ∧ K.lookup a = none ∧ u = .frz o (.lst (ns.map V.int))) := fun b u q => by
    rw [eS] at q
    unfold hp0 at q
    by_cases h1 : b ∈ tb
    · rw [if_pos h1] at q
      exact .inl ⟨h1, (Option.some.inj q).symm⟩
    · rw [if_neg h1] at q
      by_cases h2 : b = a ∧ K.lookup a = none
      · rw [if_pos h2] at q
        exact .inr ⟨h2.1, h2.2, (Option.some.inj q).symm⟩
      · rw [if_neg h2] at q
        cases q
  have S_data : ∀ {b ob}, s.heap.get? b = some ob → (∀ v n, ob.data ≠ .seq v n) → ob.data ≠ .fields #[] → S b = none := fun {b ob} e n1 n2 => by
    cases q : S b with
    | none => rfl
    | some u =>
      rcases S_cases b u q with ⟨h, _⟩ | ⟨h, _⟩
      · rw [tbO b h] at e
        cases e
        exact (n2 rfl).elim
      · rw [h, scrO] at e
        cases e
        exact (n1 _ _ rfl).elim
  have S_K : ∀ {b ob}, K.lookup b = some ob → S b = none := fun {b ob} e => by
    cases q : S b with
    | none => rfl
    | some u =>
      rcases S_cases b u q with ⟨h, _⟩ | ⟨h, h2, _⟩
      · obtain ⟨q2, hq, e2⟩ := ofTb b h
        subst e2
        rw [tabK q2 hq] at e
        cases e
      · rw [h, h2] at e
        cases e
  have toB : ∀ {b ob}, s.heap.get? b = some ob → S b = none → (hidT s.heap S).get? b = some ob := fun e n => hidT_get e n
  have nsOf : ∀ {b m}, s.heap.Ns b m → (hidT s.heap S).Ns b m := fun {b m} ⟨ob, es, ep, e, d, r⟩ =>
    ⟨ob, es, ep, toB e (S_data e (fun v n z => by rw [d] at z; cases z) fun z => by rw [d] at z; cases z), d, r⟩
  have kB : K.In (hidT s.heap S) := fun b ob e => toB (inK b ob e) (S_K e)
  have md : L2.Mod K mg (hidT s.heap S) := ⟨kB, nsOf nsG, ⟨mb, nsOf nsB, boot⟩, let ⟨mc, h1, h2⟩ := nolim; ⟨mc, nsOf h1, h2⟩⟩
  have okS : HOk P w S s.heap := fun b u q => by
    rcases S_cases b u q with ⟨h, rfl⟩ | ⟨h, _, rfl⟩
    · exact tbO b h
    · subst h
      subst eo
      exact ⟨scrO, by rw [List.length_map]; exact scrL, us, _, rel, scrO⟩
  have TB : ∀ q ∈ cs, TabB (hidT s.heap S) mg q.1 q.2 := fun q hq => by
    have hE := tabE q hq
    refine ⟨?_, ?_, fun z => ?_⟩
    · obtain ⟨oc, vs, file, tf, flags, tg, inF, text, tt, e1, r1, r2, r3, r4, r5, r6, r7, r8, hne⟩ := tabC q hq
      refine ⟨oc, vs, file, tf, flags, tg, inF, text, tt, toB e1 (S_data e1 (fun v n z => ?_) fun z => ?_), r1, r2, r3, r4, r5, r6, r7, r8, hne⟩
      · rw [r2] at z
        cases z
      · rw [r2] at z
        cases z
        simp at r3
    · obtain ⟨bm, ob, b1, b2, b3, b4, b5, b6⟩ := bmain
      refine ⟨bm, ob, b1, b2, fun z => ?_, fun z => ?_, toB b3 (S_data b3 (fun v n z => ?_) fun z => ?_), b4, b5, b6⟩
      · obtain ⟨o2, es, ep, e, hd, _⟩ := nsG
        rw [z, e] at b3
        cases b3
        rw [hd] at b6
        cases b6
      · rw [z, hE] at b3
        cases b3
        cases b6
      · rw [b6] at z
        cases z
      · rw [b6] at z
        cases z
    · obtain ⟨o2, es, ep, e, hd, _⟩ := nsG
      rw [z, hE] at e
      cases e
      cases hd
  have e0 : Env0 P w K mg (hidT s.heap S) callerA [] s S := ⟨rfl, md, fun b ob e => of_hidT e, Nat.le_of_eq (hidT_size _ _), trivial, fun b hb => (by cases hb), okS, .of_eq nogen⟩
  have tabs : Tabs T S := fun t ht => by
    obtain ⟨q, hq, e⟩ := inT t ht
    exact .nil (by rw [← e]; exact S_tb _ (inTb q hq))
  have scr : ScrM K (fun _ => False) S a (ns.map V.int) := by
    cases hk : K.lookup a with
    | none =>
      refine .inl ⟨fun z => z, o, ?_⟩
      rw [eS]
      unfold hp0
      rw [if_neg aTb, if_pos ⟨rfl, hk⟩]
    | some ob =>
      have e := inK a ob hk
      rw [scrO] at e
      cases e
      exact .inr (.inr ⟨_, us.toArray, _, hk, rfl, rfl, rfl, by rw [List.size_toArray, scrI.length]; exact scrL, by simpa using rel⟩)
  have sp : spC ⟨K, mg, T⟩ C [.ref a] S (fun v _ => v = .bl true) fun _ _ _ => False :=
    ⟨fun _ => False, [.scr ns], _, noX, fun _ z => z.elim, tabs, .cons ⟨a, rfl, scr⟩ .nil, hC, fun r v H' q _ _ rr => by
      subst q
      cases rr
      rfl, fun _ _ _ _ z => False.elim z⟩
  refine codeAny_mono ((ok _ kB (nsOf nsG) TB).run callerA [] s S ⟨[.ref a], []⟩ [.ref a] [.ref a] _ _ room (fun _ => rfl) e0 (bnd s (.ref a)) (.cons rfl .nil) sp) fun r t h => ?_
  match r, h with
  | .error e, h =>
    obtain ⟨_, _, _, _, _, _, _, _, _, _, _, _, z⟩ := h
    exact z.elim
  | .ok .next, h => exact False.elim h
  | .ok .brk, h => exact False.elim h
  | .ok .cont, h => exact False.elim h
  | .ok (.ret u), ⟨v, H', os, bare, un, ok', r', q⟩ =>
    have q' : v = .bl true := q
    subst q'
    obtain rfl : u = Value.bool true := r'
    have stay : ∀ b ob, b ∉ tb → s.heap.get? b = some ob → t.heap.get? b = some ob := fun b ob nb e => by
      cases q : S b with
      | none => exact un.keep b ob e q (fun z => by cases z) (by simp)
      | some z =>
        rcases S_cases b z q with ⟨h, _⟩ | ⟨_, _, rfl⟩
        · exact (nb h).elim
        · obtain ⟨e1, _⟩ := okS b _ q
          obtain ⟨e2, _⟩ := ok' b _ (un.frzs b _ _ q)
          rw [e] at e1
          rw [e2, e1]
    have grown : ∀ b ∈ tb, ∃ more : Array Value, t.heap.get? b = some { cls := .none, data := .fields (#[] ++ more) } := fun b hb => by
      obtain ⟨more, z⟩ := un.tbls b #[] (S_tb b hb)
      exact ⟨more, ok' b _ z⟩
    refine ⟨rfl, ⟨fun b ob e => ?_, fun b ob e => ?_⟩, os, bare⟩
    · by_cases hb : b ∈ tb
      · obtain ⟨more, hm⟩ := grown b hb
        obtain ⟨q, hq, eb⟩ := ofTb b hb
        subst eb
        rw [tabE q hq] at e
        cases e
        exact .inr (.inl ⟨((tabC q hq).tab (tabE q hq)).isCodeTable, rfl, #[], more, rfl, hm⟩)
      · exact .inl (stay b ob hb e)
    · by_cases hb : b ∈ tb
      · obtain ⟨more, hm⟩ := grown b hb
        exact ⟨_, hm⟩
      · exact ⟨ob, stay b ob hb e⟩
end T3
set_option linter.all false
set_option maxRecDepth 100000
set_option maxHeartbeats 2000000
set_option Elab.async false
/-! T15: count, index; a caught error looked at; the def that makes a word of a call. -/
namespace T3
open L2 LamX PySem PyProof.Rows PySem.Spec

/-! ### count, index -/
section
variable {X : Cx} {T : List (Addr × Str)} {E : XK} {e a b : Expr} {pos p : Pos}
theorem PEor {t t' : TE} (h : PE X e t) (h' : PE X e t') : PE X e (fun σ H Q => t σ H Q ∨ t' σ H Q) := ⟨fun pins s σ H Q I q => q.elim (h.run pins s σ H Q I) (h'.run pins s σ H Q I)⟩
def rCntD (K : PySem.W.Frag) (t : Bool) : V → List V → Hp → VK → Prop := fun x xs H Q => ∃ (c : Addr) (y : V) (d : PyData) (ds : List PyData), x = V.ref c ∧ xs = [y] ∧ Dp K H (V.ref c) (if t = true then .tuple ds else .list ds) ∧ Dp K H y d ∧
  SeqAt.shaped (.list ds) = true ∧ SeqAt.shaped d = true ∧ Q (.int ((ds.countP fun z => PyData.eqv z d : Nat) : Int)) H
theorem cnt_map {h : Heap} {its : List Value} {ds : List PyData} {d : PyData} (e : its.map (SeqAt.readOf h) = ds) : its.countP (fun u => PyData.eqv (SeqAt.readOf h u) d) = ds.countP fun z => PyData.eqv z d := by
  rw [← e, List.countP_map]
  rfl
theorem mt_cntL (hu : X.A.units + 65 < cLine) : MtR X "list.count" (rCntD X.K false) := by
  intro pins s σ H x xs v us Q I rx rxs h
  obtain ⟨c, y, d, ds, rfl, rfl, hl, hy, sl, sd, q⟩ := h
  cases rx
  cases rxs with
  | cons ry rt =>
    rename_i uy ut
    cases rt
    obtain ⟨bs, r1⟩ := Dp.reads I d y uy hy ry
    have hxs : PyData.canLayAll0 ds = true := lay_of_shaped sl
    have hroom : X.A.units + 1 + min (PyData.depthAll ds) d.depth < cLine := room_in_shaped sd hu
    have hl' : Dp X.K H (V.ref c) (.list ds) := hl
    cases hl' with
    | lst hs ha =>
      obtain ⟨its, rv, ⟨⟨cls, dd, data, sls⟩, n, ho, hc, hdn, hdt⟩, hlen⟩ := I.list hs
      simp only at hc hdt
      subst hc hdt
      obtain ⟨as, h4⟩ := Dp.readsAll I ds _ its ha rv
      have hmap := SeqAt.readsAll_map ds its as hxs h4
      refine call_meets PySem.F.slot_list_count ⟨_, ho, rfl⟩ PySem.F.entry_list_count (PySem.F.args_list_count_2 _ _)
        (SeqAt.list_countAt c its.toArray n dd sls uy (fun u => PyData.eqv (SeqAt.readOf s.heap u) d)) ⟨ho, SeqAt.items_eqAt (vs := its.toArray) (show ReadsAll s.heap its.toArray.toList ds as from h4) r1 hxs (lay_of_shaped sd) hroom, ?_⟩
      exact ⟨.int _, H, I.tok _, ⟨s.toks, by rw [← cnt_map (d := d) hmap]⟩, q⟩
theorem mt_cntT (hu : X.A.units + 65 < cLine) : MtR X "tuple.count" (rCntD X.K true) := by
  intro pins s σ H x xs v us Q I rx rxs h
  obtain ⟨c, y, d, ds, rfl, rfl, hl, hy, sl, sd, q⟩ := h
  cases rx
  cases rxs with
  | cons ry rt =>
    rename_i uy ut
    cases rt
    obtain ⟨bs, r1⟩ := Dp.reads I d y uy hy ry
    have hxs : PyData.canLayAll0 ds = true := lay_of_shaped sl
    have hroom : X.A.units + 1 + min (PyData.depthAll ds) d.depth < cLine := room_in_shaped sd hu
    have hl' : Dp X.K H (V.ref c) (.tuple ds) := hl
    cases hl' with
    | tup hs ha =>
      obtain ⟨its, rv, ⟨⟨cls, dd, data, sls⟩, ho, hc, n, hdt⟩, hlen⟩ := I.tuple hs
      simp only at hc hdt
      subst hc hdt
      obtain ⟨as, h4⟩ := Dp.readsAll I ds _ its ha rv
      have hmap := SeqAt.readsAll_map ds its as hxs h4
      refine call_meets PySem.F.slot_tuple_count ⟨_, ho, rfl⟩ PySem.F.entry_tuple_count (PySem.F.args_tuple_count_2 _ _)
        (SeqAt.tuple_countAt c its.toArray n dd sls uy (fun u => PyData.eqv (SeqAt.readOf s.heap u) d)) ⟨ho, SeqAt.items_eqAt (vs := its.toArray) (show ReadsAll s.heap its.toArray.toList ds as from h4) r1 hxs (lay_of_shaped sd) hroom, ?_⟩
      exact ⟨.int _, H, I.tok _, ⟨s.toks, by rw [← cnt_map (d := d) hmap]⟩, q⟩
/-- x.count(y), x.index(y), x a list -/
def wCount (wa wb : W) : W := fun ρ Q X => wa ρ (fun r => r.wk fun x => match x with
  | .list ds => wb ρ (fun s => s.wk fun y => SeqAt.shaped (.list ds) = true ∧ SeqAt.shaped y = true ∧ Q (.d (.int ((ds.countP fun z => PyData.eqv z y : Nat) : Int)))) X
  | _ => False) X
def wIndex (wa wb : W) : W := fun ρ Q X => wa ρ (fun r => r.wk fun x => match x with
  | .list ds => wb ρ (fun s => s.wk fun y => SeqAt.shaped (.list ds) = true ∧ SeqAt.shaped y = true ∧ ∃ (j : Nat) (z : PyData), ds[j]? = some z ∧ PyData.eqv z y = true ∧ (∀ (m : Nat) (z' : PyData), m < j → ds[m]? = some z' → PyData.eqv z' y = false) ∧ Q (.d (.int (j : Nat)))) X
  | _ => False) X
theorem dp_list {K : PySem.W.Frag} {M : Ad} {H : Hp} {v : V} {ds : List PyData} (h : WR K M H v (.list ds)) (sh : SeqAt.shaped (.list ds) = true) : ∃ a, v = .ref a ∧ Dp K H (.ref a) (.list ds) := by
  obtain ⟨a, vs, rfl, _, _⟩ := h.lst
  exact ⟨a, rfl, h.dp (lay_of_shaped sh)⟩
theorem ev_count {apos : Pos} {wa wb : W} (hu : X.A.units + 65 < cLine) (ha : PE X a (lift (pm X T) E wa)) (hb : PE X b (lift (pm X T) E wb)) (hbase : attributeBase a "count" X.env (eval a X.env) = eval a X.env := by rfl)
    (hfew : ((backTo pos (starEach [b] X.env)).all (fun x => !x.1) && (backToKw pos (keywordEach [] X.env)).all (fun x => x.1.isSome) && decide ([b].length + ([] : List Keyword).length + (if ([] : List Keyword).isEmpty then 0 else 1) < 30)) = true := by rfl)
    (hline : (apos.endLine == pos.line) = true := by rfl) (hs : starEach [b] X.env = (false, eval b X.env) :: starEach [] X.env := by rfl) (hplain : (backTo pos (starEach [] X.env)).any (·.1) = false := by rfl) :
    PE X (.Call (.Attribute a "count" apos) [b] [] pos) (lift (pm X T) E (wCount wa wb)) := by
  refine PEimp (pe_bm PySem.F.plainAttrs_list PySem.F.slot_list_count PySem.F.type_list_count (mt_cntL hu) (apos := apos) (cpos := pos) ha (pa_cons hb pa_nil hs) hbase hfew hline hs hplain) fun σ H Q ⟨H0, M0, M, ρ, XW, Q3, re, xo, q, k⟩ => ?_
  refine ⟨H0, M0, M, ρ, XW, _, re, xo, q, fun r v H1 qr e1 t1 rr => ?_⟩
  obtain ⟨x, hx, qx⟩ := rr.weak qr
  cases x with
  | list ds =>
    obtain ⟨c, vs, rfl, hc, _⟩ := hx.lst
    refine ⟨tyl hc, H0, M0, M, ρ, XW, _, re.grow e1 t1, xo.grow e1, qx, fun s u H2 qs e2 t2 rs => ?_⟩
    obtain ⟨y, hy, s1, s2, qy⟩ := rs.weak qs
    obtain ⟨c', e3, hd⟩ := dp_list (hx.ext e2) s1
    cases e3
    exact ⟨c, u, y, ds, rfl, rfl, hd, hy.dp (lay_of_shaped s2), s1, s2, k _ _ H2 qy (e1.trans e2) t2 (.int _)⟩
  | _ => exact qx.elim
theorem ev_index {apos : Pos} {wa wb : W} (hu : X.A.units + 65 < cLine) (ha : PE X a (lift (pm X T) E wa)) (hb : PE X b (lift (pm X T) E wb)) (hbase : attributeBase a "index" X.env (eval a X.env) = eval a X.env := by rfl)
    (hfew : ((backTo pos (starEach [b] X.env)).all (fun x => !x.1) && (backToKw pos (keywordEach [] X.env)).all (fun x => x.1.isSome) && decide ([b].length + ([] : List Keyword).length + (if ([] : List Keyword).isEmpty then 0 else 1) < 30)) = true := by rfl)
    (hline : (apos.endLine == pos.line) = true := by rfl) (hs : starEach [b] X.env = (false, eval b X.env) :: starEach [] X.env := by rfl) (hplain : (backTo pos (starEach [] X.env)).any (·.1) = false := by rfl) :
    PE X (.Call (.Attribute a "index" apos) [b] [] pos) (lift (pm X T) E (wIndex wa wb)) := by
  refine PEimp (pe_bm PySem.F.plainAttrs_list PySem.F.slot_list_index PySem.F.type_list_index (mt_indexD hu) (apos := apos) (cpos := pos) ha (pa_cons hb pa_nil hs) hbase hfew hline hs hplain) fun σ H Q ⟨H0, M0, M, ρ, XW, Q3, re, xo, q, k⟩ => ?_
  refine ⟨H0, M0, M, ρ, XW, _, re, xo, q, fun r v H1 qr e1 t1 rr => ?_⟩
  obtain ⟨x, hx, qx⟩ := rr.weak qr
  cases x with
  | list ds =>
    obtain ⟨c, vs, rfl, hc, _⟩ := hx.lst
    refine ⟨tyl hc, H0, M0, M, ρ, XW, _, re.grow e1 t1, xo.grow e1, qx, fun s u H2 qs e2 t2 rs => ?_⟩
    obtain ⟨y, hy, s1, s2, j, z, z1, z2, z3, qy⟩ := rs.weak qs
    obtain ⟨c', e3, hd⟩ := dp_list (hx.ext e2) s1
    cases e3
    exact ⟨c, u, y, ds, j, z, rfl, rfl, hd, hy.dp (lay_of_shaped s2), s1, s2, z1, z2, z3, k _ _ H2 qy (e1.trans e2) t2 (.int _)⟩
  | _ => exact qx.elim
end

/-! ### a caught error -/
section
variable {X : Cx} {T : List (Addr × Str)} {E : XK} {e e2 : Expr} {pos p : Pos}
/-- isinstance(e, C), e the error at a -/
def wIsE (i : Nat) (a : Addr) (b : Bool) : W := fun ρ Q _ => ρ[i]? = some (some (.adr a)) ∧ Q (.d (.bool b))
theorem ev_isE {a D : Addr} {oe : Obj} {pn : List (Addr × Obj)} {i : Nat} {c : V} {cv : Value} {b : Bool} (C : L2.ExcC X.K D) (hz : Zc (.ref D) none oe) (hf : ∃ vs, oe.data = .fields vs) (hg : Gl X "isinstance") (hm : X.mg "isinstance" = none)
    (he : PE (X.suite a ((a, oe) :: pn)) e (tVar i)) (hc : PE (X.suite a ((a, oe) :: pn)) e2 (tC c)) (hcv : ∀ u, RelV c u → u = cv) (hk : PySem.W.kitOne X.K (.ref D) cv = some b)
    (hs : starEach [e, e2] X.env = (false, eval e X.env) :: starEach [e2] X.env := by rfl) (hs2 : starEach [e2] X.env = (false, eval e2 X.env) :: starEach [] X.env := by rfl) (hpl : (backTo pos (starEach [e2] X.env)).any (·.1) = false := by rfl) :
    PE (X.suite a ((a, oe) :: pn)) (.Call (.Name "isinstance" p) [e, e2] [] pos) (lift (pm X T) E (wIsE i a b)) := by
  refine PEimp (pe_callB (X := X.suite a ((a, oe) :: pn)) (call_isE C hz hf) hg hm bb_isinstance (pa_cons he (pa_cons hc pa_nil hs2) hs) (by decide) (by decide) hs hpl) fun σ H Q ⟨H0, M0, M, ρ, XW, Q3, re, xo, ⟨hr, q⟩, k⟩ => ?_
  obtain ⟨v, h1, h2⟩ := re.slot i _ hr
  have h2' : v = .ref a := h2
  subst h2'
  exact ⟨_, h1, c, cv, b, rfl, hcv, hk, k _ _ H q (ExtN.refl H) re.tabs (.bl b)⟩
end
end T3
set_option linter.all false
set_option maxRecDepth 100000
set_option maxHeartbeats 2000000
set_option Elab.async false
/-! T16: the defs that make a word of a call. -/
namespace T3
open L2 LamX PySem PyProof.Rows PySem.Spec
abbrev wCx (X : Cx) (Ng : List Str) (x : Str) (sg : Scope) (g : Addr) (cdg : Value) (s : Shared) (H : Hp) : Cx := (cxOf C8.CX0 X.prog X.w X.K X.mg X.base Ng x sg g cdg X.A X.stack s H C8.E0).nox
/-- an error of the class at C -/
def Caught (P : Pm) (wd : Exc → Option Str) (x : Exc) (cls : Value) (d : Option Addr) : Prop := (∃ z, wd x = some z) ∧ x.arg = none ∧ ∃ C, P.mg x.name = some (.ref C) ∧ cls = .ref C ∧ d = none
theorem caught_of {P : Pm} {M : Ad} {wd : Exc → Option Str} {x : Exc} {z : Str} {cls : Value} {d : Option Addr} {H : Hp} (hz : wd x = some z) (ha : x.arg = none) (h : RX P M x cls d H) : Caught P wd x cls d := by
  obtain ⟨C, h1, h2, h3⟩ := h
  rw [ha] at h3
  exact ⟨⟨z, hz⟩, ha, C, h1, h2, h3⟩
/-- the suite's reading, whatever was caught -/
def tSuite (P : Pm) (n : Nat) (wd : Exc → Option Str) (ws : Addr → Exc → WS) (a : Addr) (cls : Value) (d : Option Addr) : TS := fun D σ H => σ.length = n → ∃ x, Caught P wd x cls d ∧ liftS P C8.E0 (ws a x) D σ H
theorem pss_suite {X : Cx} {ss : List Stmt} {P : Pm} {n : Nat} {wd : Exc → Option Str} {ws : Addr → Exc → WS} {a : Addr} {cls : Value} {d : Option Addr} (hn : X.N.length = n) (h : ∀ x, Caught P wd x cls d → PSs X ss (liftS P C8.E0 (ws a x))) : PSs X ss (tSuite P n wd ws a cls d) := by
  refine ⟨fun pins s σ H D I q => ?_⟩
  obtain ⟨x, hx, q⟩ := q (I.len.trans hn)
  exact (h x hx).run pins s σ H D I q
/-- slots of which nothing is known but that i holds the error -/
def errR (n i : Nat) (a : Addr) : Env3 := (List.replicate n none).set i (some (.adr a))
theorem re_err {P : Pm} {H : Hp} {σ : St} {n i : Nat} {a : Addr} (t : Tabs P.T H) (hl : σ.length = n) : RE P H (fun _ => False) (fun _ => False) H (σ.set i (some (.ref a))) (errR n i a) := by
  have no : ∀ (j : Nat) (r : R), (List.replicate n (none : Option R))[j]? = some (some r) → False := fun j r q => by
    rw [List.getElem?_replicate] at q
    split at q <;> cases q
  refine ⟨.refl H, t, fun _ z => z, fun _ z => z.elim, fun _ z => z.elim, fun _ z => z.elim, fun j r q => ?_, fun j xs b q hσ => ?_, fun j k xs ys b hne q1 q2 hσ hσ2 => ?_, by unfold errR; simp [hl]⟩
  · unfold errR at q
    rcases set_get q with ⟨e, e2, hi⟩ | ⟨ne, q⟩
    · subst e
      cases e2
      exact ⟨.ref a, by rw [List.getElem?_set_self (by simpa [hl] using hi)], rfl⟩
    · exact (no j r q).elim
  · unfold errR at q
    rcases set_get q with ⟨e, e2, hi⟩ | ⟨ne, q⟩
    · cases e2
    · exact (no j _ q).elim
  · unfold errR at q1
    rcases set_get q1 with ⟨e, e2, hi⟩ | ⟨ne, q⟩
    · cases e2
    · exact (no j _ q).elim
/-- try: call() / except C as e: suite (that returns) / return told -/
theorem word_rets {X : Cx} {T : List (Addr × Str)} {Ng : List Str} {x a en q told ck : Str} {sg : Scope} {g CK : Addr} {cdg : Value} {i j : Nat} {b₀ : Stmt} {suite : List Stmt} {p1 p2 p3 p4 p5 p6 p7 p8 : Pos} {wd : Exc → Option Str} {ws : Addr → Exc → WS}
    (nd : Ng.Nodup) (hi : Ng[i]? = some en) (hln : ∀ (s : Shared) (H : Hp), (wCx X Ng x sg g cdg s H).env.kindOf en = some .local) (hge : sg.names.lookup ck = some .globalImplicit) (hde : (ck == ("__debug__" : Str)) = false) (hck : X.mg ck = some (.ref CK))
    (h0 : ∀ f : Addr, (L2.start Ng [V.ref f])[0]? = some (some (V.ref f)))
    (hsu : ∀ (s : Shared) (H : Hp) (a : Addr) (oe : Obj) (cls : Value) (d : Option Addr) (pn : List (Addr × Obj)), Zc cls d oe → (∃ vs, oe.data = .fields vs) → ∀ y, Caught (pm X T) wd y cls d → PSs ((wCx X Ng x sg g cdg s H).suite a ((a, oe) :: pn)) (b₀ :: suite) (liftS (pm X T) C8.E0 (ws a y)))
    (hex : ∀ y z C, wd y = some z → X.mg y.name = some (.ref C) → PySem.W.exmOne X.K (.ref C) (.ref CK) = some true) (harg : ∀ y z, wd y = some z → y.arg = none)
    (hpure : ∀ (a : Addr) (y : Exc) (z : Str), wd y = some z → ws a y { nx := fun _ => False, rt := fun r => r = .d (.str z) } (errR Ng.length i a) noX) :
    GivesTo X Ng x sg g cdg [.Try [.Expr (.Call (.Name a p1) [] [] p2) p3] [.ExceptHandler (some (.Name ck p4)) (some en) (b₀ :: suite) p5] [] [] p6, .Return (some (.Constant (.str told) j p7)) p8] a q (TWord (pm X T) told wd) := by
  intro f c' s H Q tl act hc ⟨Ew, hEw, h⟩
  refine ⟨_, pss_cons (ps_try_as (X := wCx X Ng x sg g cdg s H) (c := .ref CK) (i := i)
      (tb := fun W D σ H => ∃ Ech : XK, (∀ cls d σ' H', Ech cls d H' → W cls d σ' H') ∧ σ[0]? = some (some (.ref f)) ∧ H c' = some (CodeO c' q) ∧ tl Ech H (fun _ H' => D.nx σ H'))
      (ts := tSuite (pm X T) Ng.length wd ws) rfl rfl nd hi (hln s H) ⟨hge, hde, .inl hck⟩ L2.takes0 (fun W pn xe tk _ => ?_) (fun a oe cls d pn hz hf => pss_suite rfl (hsu s H a oe cls d pn hz hf))) (pss_one (ps_ret pe_str)), ?_⟩
  · refine ⟨fun pins s' σ H' D I h' => ?_⟩
    obtain ⟨Ech, hW, h1, h2, h3⟩ := h'
    exact (pss_one (ps_expr (act W pn xe Ech p1 p2 tk hW))).run pins s' σ H' D I ⟨h1, h2, h3⟩
  · refine ⟨Ew, fun cls d σ' H' he => ?_, h0 f, hc, h⟩
    obtain ⟨y, z, hz, rx, t', mono⟩ := hEw cls d H' he
    have rx' := rx
    obtain ⟨C, g1, g2, _⟩ := rx'
    subst g2
    refine ⟨true, hex y z C hz g1, fun _ a' ha' hl => ?_, fun h => by cases h⟩
    refine ⟨y, caught_of hz (harg y z hz) rx, H', fun _ => False, fun _ => False, errR Ng.length i a', noX, _, re_err t' (by simpa using hl), hpure a' y z hz, fun _ _ _ _ q _ => q.elim, fun _ _ _ _ q _ => q.elim, fun _ _ _ _ q _ => q.elim, fun _ _ _ _ q => False.elim q, fun r v H2 hq e2 t2 rr => ?_⟩
    subst hq
    cases rr
    exact mono H2 e2 t2
end T3
set_option linter.all false
set_option maxRecDepth 100000
set_option maxHeartbeats 2000000
set_option Elab.async false
/-! T17: lambdas by a def's facts; what the head tells, as facts of defs, names and classes. -/
namespace T3
open L2 LamX PySem PyProof.Rows PySem.Spec
/-- a def's code object has a table: q, what its lambdas are called -/
def PcL (mg : Str → Option Value) (base : Heap) (T : List (Addr × Str)) (q : Str) : Value → Prop := fun cdv => ∃ c Pt, cdv = .ref c ∧ TabB base mg c Pt ∧ (Pt, q) ∈ T ∧ ∀ t ∈ T, t.1 = Pt → t.2 = q
section
variable {X : Cx} {T : List (Addr × Str)} {E : XK} {e a b : Expr} {pos p : Pos}
theorem es_dead {st : Stmt} : PS X st (liftS (pm X T) E fun _ _ _ => False) := ⟨fun _ _ _ _ _ _ ⟨_, _, _, _, _, _, _, q, _⟩ => q.elim⟩
theorem passLam {A : Around} {outer : List Env} {s : Shared} {H : Hp} {E : XK} {scope : Scope} {f c' : Addr} : L2.Passes (L2.CX (lamCx X A outer s H E scope f c').prog (lamCx X A outer s H E scope f c').w) (lamCx X A outer s H E scope f c') E :=
  passes_call (X := lamCx X A outer s H E scope f c') (takes_of rfl rfl rfl rfl) fun _ _ _ _ h => h
theorem pe_cls {x : Str} {C : Addr} (hg : Gl X x) (h : X.mg x = some (.ref C)) (hd : (x == ("__debug__" : Str)) = false := by decide) : PE X (.Name x pos) (tC (.ref C)) := pe_glob hg h rfl hd
theorem bb_ve : bootBuiltins "ValueError" = some (.type "ValueError") := by decide +kernel
theorem pe_ve (hg : Gl X "ValueError") (h : X.mg "ValueError" = none) : PE X (.Name "ValueError" pos) (tC (.ty "ValueError")) := pe_bltn hg h bb_ve rfl
theorem ev_wordD {told : Str} {wd : Exc → Option Str} {wc : W} {x ar : Str} {st : Stmt} {Ng : List Str} {k : Nat} {params : Arguments} {body : Expr} {scope : Scope} {lpos : Pos} (Dg : Def X.K X.mg x st anyC) (hb : BindsBy x st [ar]) (Sg : FnScope Ng [ar] (defScope st)) (hNg : Ng[0]? = some ar) (hva : Vis (defScope st) ar)
    (hG : ∀ g cdv, GivesTo X Ng x (defScope st) g cdv (defBody st) ar (X.env.qual ++ "<lambda>") (TWord (pm X T) told wd)) (hg : Gl X x) (hc : PcL X.mg X.base T (X.env.qual ++ "<lambda>") X.env.code) (hr : Room (k + 2) X.A) (L : LamS X.env.scope scope) (hdef : defaultsOf params X.env = ([], []))
    (hbind : ∀ (q : Str) (cl : List (Str × Addr)) (pm cv ctv : Value), bindArgs (PySem.W.kla_fn "<lambda>" q params body scope cl pm cv ctv) ⟨[], []⟩ = pure [])
    (hbody : ∀ (A : Around) (outer : List Env) (s : Shared) (H : Hp) (E' : XK) (f c' : Addr), Room k (A.deeper (lamEnv X scope s.heap.objs.size f c')) → PE (lamCx X A outer s H E' scope f c') body (lift (pm X T) E' wc))
    (hdb : (x == ("__debug__" : Str)) = false := by decide) (hd : (ar == ("__debug__" : Str)) = false := by decide) (hcd : (ar == ("__classdict__" : Str)) = false := by decide) :
    PE X (.Call (.Name x p) [.Lambda params body scope lpos] [] pos) (lift (pm X T) E (wWord told wd wc)) := by
  obtain ⟨f, oc, od, kV, doc, pm', an, cdv, ct, osl, hm, lk, hcd', hk, _⟩ := Dg.ex
  obtain ⟨c, Pt, e1, TB, hT, hu⟩ := hc
  exact ev_word hg hm hk lk hcd' (.all (hb kV doc pm' an cdv ct)) Sg hNg hva (hG f cdv) TB e1 hT hu hr L hdef hbind hbody hdb hd hcd
end
/-! ### what the head tells -/
section
variable {K : PySem.W.Frag} {mg : Str → Option Value} {h : Heap}
theorem def_of {x : Str} {st : Stmt} {fd : FuncData} (X : K.In h) (G : h.Ns mainGlobals mg) (F : FunD K x x (defArgs st) (defBody st) (defScope st) [] [] (He.fAd K (x, none)) fd) (c : (He.Fa.glo x).ok K = true) {Pc : Value → Prop} (hp : ∀ cdv oc od osl, K.lookup (He.fAd K (x, none)) = some ⟨oc, od, .func fd, osl⟩ → fd.code = cdv → PySem.W.codeIn K cdv x = true → Pc cdv) : Def K mg x st Pc := by
  obtain ⟨oc, od, dV, kV, doc, pm, an, cdv, ct, osl, e, l, hc, hd, _⟩ := F.ex
  rcases hd with ⟨_, e2⟩ | ⟨e2, _⟩
  · subst e2
    have hpc := hp cdv oc od osl l (by rw [e]) hc
    refine ⟨_, oc, od, kV, doc, pm, an, cdv, ct, osl, He.glo_ok X G c, ?_, hc, F.kp, hpc⟩
    rw [← e]
    exact l
  · exact absurd rfl e2
theorem exc_of {x : Str} (X : K.In h) (G : h.Ns mainGlobals mg) (c : (He.Fa.glo x).ok K = true) (c2 : (He.Fa.exc x).ok K = true) : ∃ C, ExC K mg x C := by
  obtain ⟨h1, h2, h3, h4⟩ := He.exc_ok c2
  exact ⟨_, He.glo_ok X G c, h1, h2, h3, h4⟩
/-- an error class that an except suite looks at -/
def errB (K : PySem.W.Frag) (ck : Str) (ys : List (Str × Bool)) (x : Str) : Bool :=
  He.eqO (PySem.W.findIn K (.ref (He.ga K x)) "__getattribute__") (some (some (.builtin "BaseException.__getattribute__"))) && He.eqO (PySem.W.findIn K (.ref (He.ga K x)) "__getattr__") (some none) &&
  decide (PySem.W.subIn K (.ref (He.ga K x)) (.type "BaseException") = some true) && PySem.W.hasDictIn K (He.ga K x) && He.eqO (PySem.W.findIn K (.ref (He.ga K x)) "__class__") (some (some (.builtin "object.__class__"))) &&
  He.eqO (PySem.W.specialIn K (.builtin "object.__class__") "__get__") (some (some (.builtin "getset_descriptor.__get__"))) && decide (PySem.W.takesIn K (.builtin "object.__class__") = some true) && decide (PySem.W.mroIn K (He.ga K x) (.type "object") = some true) &&
  decide (PySem.W.exmOne K (.ref (He.ga K x)) (.ref (He.ga K ck)) = some true) && decide (PySem.W.kitOne K (.ref (He.ga K x)) (.type "ValueError") = some true) && ys.all fun y => decide (PySem.W.kitOne K (.ref (He.ga K x)) (.ref (He.ga K y.1)) = some y.2)
structure ErrC (K : PySem.W.Frag) (mg : Str → Option Value) (ck : Str) (ys : List (Str × Bool)) (x : Str) : Prop where
  ex : ∃ C CK, mg x = some (.ref C) ∧ mg ck = some (.ref CK) ∧ L2.ExcC K C ∧ PySem.W.exmOne K (.ref C) (.ref CK) = some true ∧ PySem.W.kitOne K (.ref C) (.type "ValueError") = some true ∧
    ∀ y ∈ ys, ∀ Y, mg y.1 = some (.ref Y) → PySem.W.kitOne K (.ref C) (.ref Y) = some y.2
theorem err_of {x ck : Str} {ys : List (Str × Bool)} (X : K.In h) (G : h.Ns mainGlobals mg) (c : (He.Fa.glo x).ok K = true) (ck' : (He.Fa.glo ck).ok K = true) (cy : ∀ y ∈ ys, (He.Fa.glo y.1).ok K = true) (hB : errB K ck ys x = true) : ErrC K mg ck ys x := by
  unfold errB at hB
  simp only [Bool.and_eq_true, decide_eq_true_eq, List.all_eq_true] at hB
  obtain ⟨⟨⟨⟨⟨⟨⟨⟨⟨⟨h1, h2⟩, h3⟩, h4⟩, h5⟩, h6⟩, h7⟩, h8⟩, h9⟩, h10⟩, h11⟩ := hB
  refine ⟨_, _, He.glo_ok X G c, He.glo_ok X G ck', ⟨He.eqO_ok h1, He.eqO_ok h2, h3, h4, He.eqO_ok h5, He.eqO_ok h6, h7, h8⟩, h9, h10, fun y hy Y hY => ?_⟩
  have e := hY.symm.trans (He.glo_ok X G (cy y hy))
  cases e
  exact h11 y hy
end
/-! ### the end -/
theorem FnG.weak {g : Bool} {P : Program} {w : World} {K : PySem.W.Frag} {mg : Str → Option Value} {base : Heap} {k : Nat} {f : Addr} {fd : FuncData} {ps : List Str} {sp : Sp} (F : FnG g P w K mg base k f fd ps sp) : FnG true P w K mg base k f fd ps sp :=
  ⟨F.len, fun A outer s H args us vs Q E hr hg => F.run A outer s H args us vs Q E hr (fun _ => hg rfl)⟩
structure LawG (l : PySem.W.OpenLaw) (w : World) (K : PySem.W.Frag) (k n : Nat) (x : Str) (mg : Str → Option Value) (fa : Addr) (h : Heap) : Prop where
  ex : ∃ (fd : FuncData) (cs : List (Addr × Addr)) (T : List (Addr × Str)) (C : Ct), (∀ q ∈ cs, h.get? q.2 = some { cls := .none, data := .fields #[] }) ∧ (∀ q ∈ cs, K.lookup q.2 = none) ∧ (∀ q ∈ cs, PySem.W.CodeHd h q.1 q.2) ∧
    (∀ (s : Shared) (u : Value), BindsTo s fd ⟨[u], []⟩ [(x, u)]) ∧ (∀ t ∈ T, ∃ q ∈ cs, q.2 = t.1) ∧ (∀ ns : List Int, ns.length ≤ n → C [.scr ns] (fun r => r = .d (.bool true)) noX) ∧
    ∀ base : Heap, K.In base → base.Ns mainGlobals mg → (∀ q ∈ cs, TabB base mg q.1 q.2) → FnG true l.prog w K mg base k fa fd [x] (spC ⟨K, mg, T⟩ C)
theorem walk_G {l : PySem.W.OpenLaw} {n k : Nat} {q : Program} {loose : List Str} {XP : (Str → Option Value) → Heap → Prop} {YP : World → Heap → Prop} {d : DefRec} {x : Str} (most : l.most = some n) (few : n ≤ sizeLine) (nodef : d.params.defaults = []) (room : Room k callerA)
    (F : ∀ (w : World) (mg : Str → Option Value) (fa : Addr) (h : Heap), YP w h → h.Ns mainGlobals mg → mg d.name = some (.ref fa) → ∃ K : PySem.W.Frag, K.In h ∧ LawG l w K k n x mg fa h) : PySem.W.WalkO q loose XP YP l.row.toRowW d [] (fun f vs => PySem.call f vs) := by
  refine Att.attach_callB most nodef fun w s0 s1 mg mb fa o pm cd doc a vs ns G Y ho hd hcd hmg scr isInts len _ gens => ?_
  obtain ⟨K, inK, ⟨fd, cs, T, C, c1, c2, c3, c4, c5, c6, c7⟩⟩ := F w mg fa _ Y G.T.g hmg
  exact law_run inK G.T.g G.T.b G.T.builtins G.T.nolimit gens c1 c2 c3 G.T.bmain scr isInts (Nat.le_trans len few) room c7 c4 c5 (c6 ns len)
end T3
set_option linter.all false
set_option maxRecDepth 100000
set_option maxHeartbeats 2000000
set_option Elab.async false
/-! T18: readings unfolded; loops by rules. -/
namespace T3
open L2 LamX PySem PyProof.Rows PySem.Spec
theorem passL {P : Program} {w : World} {Y : Cx} : L2.Passes (L2.CX P w) Y E0 := fun _ _ _ _ _ _ _ ⟨_, _, _, _, _, _, _, _, _, _, _, _, z⟩ => False.elim z
/-- a comprehension, item by item: o, what is made of x (none: nothing) -/
inductive Made (S : PyData → Option PyData → Prop) : List PyData → List PyData → Prop
  | nil : Made S [] []
  | keep {x y : PyData} {xs ys : List PyData} : S x (some y) → Made S xs ys → Made S (x :: xs) (y :: ys)
  | drop {x : PyData} {xs ys : List PyData} : S x none → Made S xs ys → Made S (x :: xs) ys
theorem lc_rule {tg : Tg} {tt : WB} {te : W} {ρ : Env3} {Q : List PyData → Prop} (S : PyData → Option PyData → Prop) : ∀ (xs acc : List PyData),
    (∀ x ∈ xs, ∀ k : Option PyData → Prop, (∀ o, S x o → k o) → tgW tg x ρ fun ρ' => tt ρ' (fun b => if b = true then te ρ' (fun r => r.st fun y => k (some y)) noX else k none) noX) → (∀ ys, Made S xs ys → Q (acc ++ ys)) → lcL tg tt te ρ Q xs acc
  | [], acc, _, h => by
    have z := h [] .nil
    rw [List.append_nil] at z
    exact z
  | x :: xs, acc, hs, h => by
    unfold lcL
    refine hs x List.mem_cons_self (fun o => match o with | some y => lcL tg tt te ρ Q xs (acc ++ [y]) | none => lcL tg tt te ρ Q xs acc) fun o ho => ?_
    cases o with
    | some y =>
      refine lc_rule S xs (acc ++ [y]) (fun z hz => hs z (List.mem_cons_of_mem _ hz)) fun ys hy => ?_
      rw [List.append_assoc]
      exact h _ (.keep ho hy)
    | none => exact lc_rule S xs acc (fun z hz => hs z (List.mem_cons_of_mem _ hz)) fun ys hy => h _ (.drop ho hy)
theorem made_map {f : PyData → PyData} : ∀ {xs ys : List PyData}, Made (fun x o => o = some (f x)) xs ys → ys = xs.map f
  | _, _, .nil => rfl
  | _, _, .keep h r => by
    cases h
    rw [made_map r]
    rfl
  | _, _, .drop h r => by cases h
theorem made_filter {p : PyData → Bool} {f : PyData → PyData} : ∀ {xs ys : List PyData}, Made (fun x o => o = if p x = true then some (f x) else none) xs ys → ys = (xs.filter p).map f
  | _, _, .nil => rfl
  | _, _, .keep (x := x) h r => by
    by_cases c : p x = true
    · rw [if_pos c] at h
      cases h
      rw [made_filter r, List.filter_cons_of_pos c]
      rfl
    · rw [if_neg c] at h
      cases h
  | _, _, .drop (x := x) h r => by
    by_cases c : p x = true
    · rw [if_pos c] at h
      cases h
    · rw [made_filter r, List.filter_cons_of_neg c]
/-- [f(x) for x in xs] -/
theorem lc_map {tg : Tg} {te : W} {ρ : Env3} {Q : List PyData → Prop} (f : PyData → PyData) (xs : List PyData) (h : ∀ x ∈ xs, ∀ k : PyData → Prop, k (f x) → tgW tg x ρ fun ρ' => te ρ' (fun r => r.st k) noX) (q : Q (xs.map f)) : lcL tg wYes te ρ Q xs [] :=
  lc_rule (fun x o => o = some (f x)) xs [] (fun x hx k hk => h x hx (fun y => k (some y)) (hk _ rfl)) fun ys hy => by
    rw [made_map hy]
    exact q
/-- all of it, whatever was drawn: each item good -/
theorem lc_all {tg : Tg} {te : W} {ρ : Env3} {Q : List PyData → Prop} (S : PyData → PyData → Prop) (xs : List PyData) (h : ∀ x ∈ xs, ∀ k : PyData → Prop, (∀ y, S x y → k y) → tgW tg x ρ fun ρ' => te ρ' (fun r => r.st k) noX) (q : ∀ ys, Made (fun x o => ∃ y, o = some y ∧ S x y) xs ys → Q ys) : lcL tg wYes te ρ Q xs [] :=
  lc_rule (fun x o => ∃ y, o = some y ∧ S x y) xs [] (fun x hx k hk => h x hx (fun y => k (some y)) fun y hy => hk _ ⟨y, rfl, hy⟩) q
theorem made_len {S : PyData → PyData → Prop} : ∀ {xs ys : List PyData}, Made (fun x o => ∃ y, o = some y ∧ S x y) xs ys → ys.length = xs.length
  | _, _, .nil => rfl
  | _, _, .keep _ r => by rw [List.length_cons, List.length_cons, made_len r]
  | _, _, .drop h _ => by obtain ⟨y, h, _⟩ := h; cases h
theorem made_mem {S : PyData → PyData → Prop} : ∀ {xs ys : List PyData}, Made (fun x o => ∃ y, o = some y ∧ S x y) xs ys → ∀ y ∈ ys, ∃ x ∈ xs, S x y
  | _, _, .nil => fun y hy => by cases hy
  | _, _, .keep ⟨y, h, s⟩ r => fun z hz => by
    cases h
    rcases List.mem_cons.mp hz with rfl | hz
    · exact ⟨_, List.mem_cons_self, s⟩
    · obtain ⟨x, hx, q⟩ := made_mem r z hz
      exact ⟨x, List.mem_cons_of_mem _ hx, q⟩
  | _, _, .drop h _ => by obtain ⟨y, h, _⟩ := h; cases h
/-- a loop: what stands ahead of the rest xs -/
theorem for_rule {tg : Tg} {body : WS} {D : End3} {X : Exc → Prop} (I : List PyData → Env3 → Prop) : ∀ (xs : List PyData) (ρ : Env3), I xs ρ → (∀ ρ, I [] ρ → D.nx ρ) →
    (∀ x xs ρ, I (x :: xs) ρ → ∀ N : Env3 → Prop, (∀ ρ', I xs ρ' → N ρ') → tgW tg x ρ fun ρ1 => body ⟨N, D.rt, D.nx, N⟩ ρ1 X) → forL tg body D X xs ρ
  | [], ρ, h, e, _ => e ρ h
  | x :: xs, ρ, h, e, s => by
    unfold forL
    exact s x xs ρ h _ fun ρ' h' => for_rule I xs ρ' h' e s
theorem all_map {f : PyData → Bool} {xs : List PyData} : ∃ bs : List Bool, xs.map (fun x => PyData.bool (f x)) = bs.map PyData.bool ∧ bs.all id = xs.all f := ⟨xs.map f, by rw [List.map_map]; rfl, by rw [List.all_map]; rfl⟩
/-! ### places, parts, equality of plain things -/
theorem at0 {α : Type} (x : α) (xs : List α) : atI (x :: xs) 0 = some x := by
  unfold atI ixN
  rw [if_pos (by omega), if_pos (by simp)]
  rfl
theorem at1 {α : Type} (x y : α) (xs : List α) : atI (x :: y :: xs) 1 = some y := by
  unfold atI ixN
  rw [if_pos (by omega), if_pos (by simp; omega)]
  rfl
theorem at2 {α : Type} (x y z : α) (xs : List α) : atI (x :: y :: z :: xs) 2 = some z := by
  unfold atI ixN
  rw [if_pos (by omega), if_pos (by simp; omega)]
  rfl
theorem at3 {α : Type} (x y z u : α) (xs : List α) : atI (x :: y :: z :: u :: xs) 3 = some u := by
  unfold atI ixN
  rw [if_pos (by omega), if_pos (by simp; omega)]
  rfl
theorem at4 {α : Type} (x y z u v : α) (xs : List α) : atI (x :: y :: z :: u :: v :: xs) 4 = some v := by
  unfold atI ixN
  rw [if_pos (by omega), if_pos (by simp; omega)]
  rfl
theorem at_nat {α : Type} {xs : List α} {j : Nat} (h : j < xs.length) : atI xs (j : Int) = some xs[j] := by
  unfold atI ixN
  rw [if_pos (by omega), if_pos (by omega)]
  show xs[((j : Int)).toNat]? = _
  rw [Int.toNat_natCast, List.getElem?_eq_getElem h]
theorem ixN_nat {n j : Nat} (h : j < n) : ixN n (j : Int) = some j := by
  unfold ixN
  rw [if_pos (by omega), if_pos (by omega)]
  rfl
theorem at_last {α : Type} (xs : List α) (x : α) : atI (xs ++ [x]) (-1) = some x := by
  unfold atI ixN
  rw [if_neg (by omega), if_pos (by simp; omega)]
  show (xs ++ [x])[(-1 + (((xs ++ [x]).length : Nat) : Int)).toNat]? = some x
  have e : (-1 + (((xs ++ [x]).length : Nat) : Int)).toNat = xs.length := by
    rw [List.length_append, List.length_singleton]
    omega
  rw [e, List.getElem?_append_right (Nat.le_refl _), Nat.sub_self]
  rfl
theorem cut1 {α : Type} (x : α) (xs : List α) : cut (x :: xs) (some 1) none = xs := by
  unfold T3.cut
  have e1 : HT.sIx (x :: xs).length 0 (some 1) = 1 := by
    show (if (1 : Int) < 0 then ((1 : Int) + ((xs.length + 1 : Nat) : Int)).toNat else min (1 : Int).toNat (xs.length + 1)) = 1
    rw [if_neg (by omega)]
    show min 1 (xs.length + 1) = 1
    omega
  have e2 : HT.sIx (x :: xs).length (x :: xs).length none = (x :: xs).length := rfl
  rw [e1, e2]
  show xs.take (xs.length + 1 - 1) = xs
  rw [Nat.add_sub_cancel, List.take_length]
theorem cut_to {α : Type} (xs : List α) (k : Nat) : cut xs none (some (k : Int)) = xs.take k := by
  unfold T3.cut
  have e1 : HT.sIx xs.length 0 none = 0 := rfl
  have e2 : HT.sIx xs.length xs.length (some (k : Int)) = min k xs.length := by
    show (if (k : Int) < 0 then ((k : Int) + ((xs.length : Nat) : Int)).toNat else min (k : Int).toNat xs.length) = _
    rw [if_neg (by omega), Int.toNat_natCast]
  rw [e1, e2, List.drop_zero, Nat.sub_zero]
  by_cases h : k ≤ xs.length
  · rw [Nat.min_eq_left h]
  · rw [Nat.min_eq_right (by omega), List.take_length, List.take_of_length_le (by omega)]
theorem cut_from {α : Type} (xs : List α) (k : Nat) : cut xs (some (k : Int)) none = xs.drop k := by
  unfold T3.cut
  have e2 : HT.sIx xs.length xs.length none = xs.length := rfl
  have e1 : HT.sIx xs.length 0 (some (k : Int)) = min k xs.length := by
    show (if (k : Int) < 0 then ((k : Int) + ((xs.length : Nat) : Int)).toNat else min (k : Int).toNat xs.length) = _
    rw [if_neg (by omega), Int.toNat_natCast]
  rw [e1, e2]
  by_cases h : k ≤ xs.length
  · rw [Nat.min_eq_left h]
    exact List.take_of_length_le (by rw [List.length_drop]; omega)
  · rw [Nat.min_eq_right (by omega), Nat.sub_self, List.take_zero, List.drop_of_length_le (by omega)]
theorem eqv_ii (a b : Int) : PyData.eqv (.int a) (.int b) = decide (a = b) := by
  rw [PyData.eqv]
  rfl
theorem eqv_ss (a b : Str) : PyData.eqv (.str a) (.str b) = decide (a = b) := by
  rw [PyData.eqv]
  by_cases h : a = b
  · subst h
    simp
  · simp [h]
theorem sh_i (a : Int) : SeqAt.shaped (.int a) = true := by rfl
theorem sh_b (a : Bool) : SeqAt.shaped (.bool a) = true := by rfl
theorem sh_n : SeqAt.shaped .none = true := by rfl
/-- a tuple or list of plain ints, texts .. -/
def flatD : PyData → Bool
  | .none | .bool _ | .int _ => true
  | .str x => SeqAt.shaped (.str x)
  | _ => false
theorem flat_lay : ∀ {xs : List PyData}, xs.all flatD = true → PyData.canLayAll0 xs = true
  | [], _ => rfl
  | x :: xs, h => by
    rw [List.all_cons, Bool.and_eq_true] at h
    have h2 := flat_lay h.2
    have h1 : x.canLay0 = true := by
      cases x with
      | str z => exact SeqAt.canLay_of_shaped h.1
      | none => rfl
      | bool b => rfl
      | int i => rfl
      | _ => exact absurd h.1 (by simp [flatD])
    rw [PyData.canLayAll0, h1, h2]
    rfl
/-- may be laid, no deeper than k -/
def Lay (k : Nat) (x : PyData) : Prop := x.canLay0 = true ∧ x.depth ≤ k
theorem Lay.sh {k : Nat} {x : PyData} (h : Lay k x) (hk : k ≤ 64 := by decide) : SeqAt.shaped x = true := by
  unfold SeqAt.shaped
  rw [h.1, decide_eq_true (Nat.le_trans h.2 hk)]
  rfl
theorem Lay.mono {k j : Nat} {x : PyData} (h : Lay k x) (hk : k ≤ j) : Lay j x := ⟨h.1, Nat.le_trans h.2 hk⟩
theorem lay_i (i : Int) : Lay 0 (.int i) := ⟨rfl, Nat.le_refl _⟩
theorem lay_b (i : Bool) : Lay 0 (.bool i) := ⟨rfl, Nat.le_refl _⟩
theorem lay_n : Lay 0 .none := ⟨rfl, Nat.le_refl _⟩
theorem lay_s {x : Str} (h : SeqAt.shaped (.str x) = true) : Lay 0 (.str x) := ⟨SeqAt.canLay_of_shaped h, Nat.le_refl _⟩
theorem lay_all {k : Nat} : ∀ {xs : List PyData}, (∀ x ∈ xs, Lay k x) → PyData.canLayAll0 xs = true ∧ PyData.depthAll xs ≤ k
  | [], _ => ⟨rfl, Nat.zero_le _⟩
  | x :: xs, h => by
    obtain ⟨h1, h2⟩ := lay_all (xs := xs) fun y hy => h y (List.mem_cons_of_mem _ hy)
    obtain ⟨g1, g2⟩ := h x List.mem_cons_self
    refine ⟨by rw [PyData.canLayAll0, g1, h1]; rfl, ?_⟩
    rw [PyData.depthAll]
    exact Nat.max_le.mpr ⟨g2, h2⟩
theorem lay_t {k : Nat} {xs : List PyData} (h : ∀ x ∈ xs, Lay k x) : Lay (k + 1) (.tuple xs) := by
  obtain ⟨h1, h2⟩ := lay_all h
  refine ⟨h1, ?_⟩
  rw [PyData.depth]
  omega
theorem lay_l {k : Nat} {xs : List PyData} (h : ∀ x ∈ xs, Lay k x) : Lay (k + 1) (.list xs) := by
  obtain ⟨h1, h2⟩ := lay_all h
  refine ⟨h1, ?_⟩
  rw [PyData.depth]
  omega
theorem lay_ints (ns : List Int) : Lay 1 (.tuple (ns.map .int)) := lay_t (k := 0) fun x hx => by
  obtain ⟨i, _, rfl⟩ := List.mem_map.mp hx
  exact lay_i i
theorem eqv_same {x : PyData} {k : Nat} (h : Lay k x) : PyData.eqv x x = true := SeqAt.eqv_refl x h.1
/-- texts compared, whatever they are -/
def eqS : Op2 := fun x y k => match x, y with
  | .str a, .str b => k (.d (.bool (decide (a = b))))
  | _, _ => False
theorem op_eqS {X : Cx} {T : List (Addr × Str)} : OpR X (compareOp .Eq) (rD (pm X T) eqS) := OpRimp op_eq fun x y H Q h => by
  obtain ⟨M, d, e, Q3, hm, ht, hd, he, q, k⟩ := h
  unfold eqS at q
  split at q
  · rename_i a b
    have e1 := hd.str
    have e2 := he.str
    subst e1 e2
    refine ⟨rfl, k _ _ _ q (ExtN.refl H) ht ?_⟩
    by_cases c : a = b
    · subst c
      rw [decide_eq_true rfl, decide_eq_true rfl]
      exact .bl true
    · rw [decide_eq_false c, decide_eq_false (fun z => c (V.str.inj z))]
      exact .bl false
  · exact q.elim
/-- may be shown, shortly: the leaves are small, there are not many -/
structure Shw (x : PyData) : Prop where
  sh : SeqAt.shaped x = true
  show_ : x.showable = true
  fits : x.shown.length ≤ sizeLine
theorem bulk_all : ∀ (xs : List PyData) (n : Nat), (∀ x ∈ xs, PyData.bulk x ≤ n) → PyData.bulkAll xs ≤ (n + 1) * xs.length
  | [], _, _ => by simp [PyData.bulkAll]
  | x :: xs, n, h => by
    have h1 := h x List.mem_cons_self
    have h2 := bulk_all xs n fun y hy => h y (List.mem_cons_of_mem _ hy)
    rw [PyData.bulkAll, List.length_cons, Nat.mul_add]
    omega
end T3
set_option linter.all false
set_option maxRecDepth 100000
set_option maxHeartbeats 2000000
set_option Elab.async false
/-! T19: sum of a tuple. -/
namespace T3
open L2 LamX PySem PyProof.Rows PySem.Spec
section
variable {prog : Program} {w : World} {A : Around} {E : Value → Shared → Prop} {s : Shared} {l : Addr} {its : List Value} {ns : List Int} {Q : Value → Shared → Prop}
theorem sum_tup (hh : A.handled = none) (hl : s.heap.IsTuple l its.toArray) (hi : IntsAre its ns)
    (h : ∀ h' tk t', (∀ b o, s.heap.get? b = some o → h'.get? b = some o) → Q (.int ns.sum t') { s with heap := h', toks := tk }) : wpAny (model prog w) A (call (.builtin "sum") [.ref l]) Q E s := by
  obtain ⟨xs, e⟩ := hi.allInts.items
  have hn : numsOf (intItems xs).toList = ns := by rw [← e]; exact hi.numsOf
  rw [nums_intItems] at hn
  rw [e] at hl
  have hlt : l < s.heap.objs.size := by obtain ⟨_, e, _⟩ := hl; exact Heap.lt_size e
  refine call_sum_walkG (wpAny_pyIter_tuple hl ?_)
  refine ⟨_, _, _, _, _, _, numAt xs, rfl, Walks.tuple (A := A.in1) hh s.heap.objs.size l (Nat.ne_of_lt hlt) (intItems xs), ⟨⟨_, Heap.get?_push_size _ rfl, rfl, rfl⟩, hl.push _⟩, fun b hb => ?_, (fun _ _ => intItems_at), fun h' tk t' hk => ?_⟩
  · show b < (s.heap.push _).objs.size
    rw [Heap.size_push]
    rcases List.mem_cons.mp hb with rfl | hb
    · exact Nat.lt_succ_self _
    · have e := List.mem_singleton.mp hb
      subst e
      exact Nat.lt_succ_of_lt hlt
  · have z := h h' tk t' fun b o q => hk b o (fun m => by
      have e := List.mem_singleton.mp m
      subst e
      exact absurd (Heap.lt_size q) (Nat.lt_irrefl _)) (Heap.get?_push_of_some _ q)
    have e2 : preSum (numAt xs) (intItems xs).size = ns.sum := by
      rw [preSum_eq, List.take_of_length_le (by simp [intItems]), hn]
    rw [e2]
    exact z
end
section
variable {X : Cx} {T : List (Addr × Str)}
def rSumT (K : PySem.W.Frag) : List V → Hp → VK → Prop := fun vs H Q => ∃ (a : Addr) (ns : List Int), vs = [V.ref a] ∧ SqT K H a (ns.map V.int) ∧ Q (.int ns.sum) H
theorem cr_sumT (hc : X.calm = true) : CallR X (.builtin "sum") (rSumT X.K) := by
  intro pins s σ H vs us Q I r h
  obtain ⟨a, ns, rfl, hs, q⟩ := h
  obtain ⟨its, rv, hl, _⟩ := I.tuple hs
  rw [Vals.ref1 r]
  exact sum_tup (I.ok.hd hc) hl (ints_of_vals rv) fun h' tk t' hk => ⟨.int _, H, I.kept hk, ⟨_, rfl⟩, q⟩
def sumDD : OpL := fun xs k => match xs with
  | [.list a] => ∃ ns : List Int, a = ns.map PyData.int ∧ k (.d (.int ns.sum))
  | [.tuple a] => ∃ ns : List Int, a = ns.map PyData.int ∧ k (.d (.int ns.sum))
  | _ => False
theorem cr_sumDD (hc : X.calm = true) : CallR X (.builtin "sum") (rDs (pm X T) sumDD) := CallRimp ((cr_sum hc).or (cr_sumT hc)) fun vs H Q h => by
  obtain ⟨M, ds, Q3, hm, ht, hp, q, k⟩ := h
  unfold sumDD at q
  split at q
  · obtain ⟨v, rfl, h⟩ := one_of hp
    obtain ⟨a, ws, rfl, l, r⟩ := h.lst
    obtain ⟨ns, rfl, q⟩ := q
    cases r.ints
    exact .inl ⟨a, ns, rfl, SqL.of l, k _ _ _ q (ExtN.refl H) ht (.int _)⟩
  · obtain ⟨v, rfl, h⟩ := one_of hp
    obtain ⟨a, ws, rfl, l, r⟩ := h.tup
    obtain ⟨ns, rfl, q⟩ := q
    cases r.ints
    exact .inr ⟨a, ns, rfl, l.sq, k _ _ _ q (ExtN.refl H) ht (.int _)⟩
  · exact q.elim
end
end T3
set_option linter.all false
set_option maxRecDepth 100000
set_option maxHeartbeats 400000
set_option Elab.async false
namespace T3.K19
open L2 LamX PySem PyProof.Rows PySem.Spec
/-! ## The text: defs, names -/
def top (i : Nat) : Stmt := PySem.Challenge.pw_kitchenhall_k19_whole_deeds_of_jugs.main.body.getD i (.Pass ⟨0, 0, 0, 0⟩)
abbrev s_is_integer : Stmt := top 1
abbrev s_is_within : Stmt := top 2
abbrev s_is_sized : Stmt := top 3
abbrev s_check_jugs : Stmt := top 18
abbrev s_is_filling : Stmt := top 19
abbrev s_is_deed : Stmt := top 20
abbrev s_raw_behind : Stmt := top 21
abbrev s_behind : Stmt := top 22
abbrev s_are_deeds : Stmt := top 23
abbrev s_raw_run : Stmt := top 24
abbrev s_run_of : Stmt := top 25
abbrev s_law_hand : Stmt := top 27
abbrev s_law_draw : Stmt := top 28
abbrev s_law_any : Stmt := top 29
abbrev s_law_same : Stmt := top 30
abbrev s_law_jugs : Stmt := top 31
abbrev s_law_all_deeds : Stmt := top 32
abbrev s_law_done : Stmt := top 33
abbrev s_law_no_jugs : Stmt := top 34
abbrev s_law_no_deed : Stmt := top 35
abbrev s_law_word_of : Stmt := top 36
abbrev s_law_is_right : Stmt := top 37
abbrev s_law_are_refused : Stmt := top 38
abbrev s_law : Stmt := top 39
def errL : List Str := ["NoDeed", "NoDeeds", "NoFilling", "NoJugs"]
def clsL : List Str := ["KitchenError", "NoDeed", "NoDeeds", "NoFilling", "NoJugs", "TooMany"]
def isa (x y : Str) : Bool := x == y || y == "KitchenError"
structure Txt (K : PySem.W.Frag) (mg : Str → Option Value) (base : Heap) (T : List (Addr × Str)) : Prop where
  d_is_integer : Def K mg "is_integer" s_is_integer anyC
  d_is_within : Def K mg "is_within" s_is_within anyC
  d_is_sized : Def K mg "is_sized" s_is_sized anyC
  d_check_jugs : Def K mg "check_jugs" s_check_jugs anyC
  d_is_filling : Def K mg "is_filling" s_is_filling anyC
  d_is_deed : Def K mg "is_deed" s_is_deed anyC
  d_raw_behind : Def K mg "raw_behind" s_raw_behind anyC
  d_behind : Def K mg "behind" s_behind anyC
  d_are_deeds : Def K mg "are_deeds" s_are_deeds anyC
  d_raw_run : Def K mg "raw_run" s_raw_run anyC
  d_run_of : Def K mg "run_of" s_run_of anyC
  d_law_hand : Def K mg "_law_hand" s_law_hand anyC
  d_law_draw : Def K mg "_law_draw" s_law_draw anyC
  d_law_any : Def K mg "_law_any" s_law_any anyC
  d_law_same : Def K mg "_law_same" s_law_same anyC
  d_law_jugs : Def K mg "_law_jugs" s_law_jugs anyC
  d_law_all_deeds : Def K mg "_law_all_deeds" s_law_all_deeds anyC
  d_law_done : Def K mg "_law_done" s_law_done anyC
  d_law_no_jugs : Def K mg "_law_no_jugs" s_law_no_jugs anyC
  d_law_no_deed : Def K mg "_law_no_deed" s_law_no_deed anyC
  d_law_word_of : Def K mg "_law_word_of" s_law_word_of anyC
  d_law_is_right : Def K mg "_law_is_right" s_law_is_right anyC
  d_law_are_refused : Def K mg "_law_are_refused" s_law_are_refused (PcL mg base T (("_law_are_refused" : Str) ++ ".<locals>." ++ "<lambda>"))
  d_law : Def K mg "law" s_law anyC
  n_ValueError : mg "ValueError" = none
  n_abs : mg "abs" = none
  n_all : mg "all" = none
  n_bool : mg "bool" = none
  n_int : mg "int" = none
  n_isinstance : mg "isinstance" = none
  n_len : mg "len" = none
  n_list : mg "list" = none
  n_min : mg "min" = none
  n_range : mg "range" = none
  n_repr : mg "repr" = none
  n_str : mg "str" = none
  n_sum : mg "sum" = none
  n_tuple : mg "tuple" = none
  n_zip : mg "zip" = none
  c_MOST_JUGS : ∃ t, mg "MOST_JUGS" = some (.int 4 t)
  c_MOST_SIZE : ∃ t, mg "MOST_SIZE" = some (.int 12 t)
  c_MOST_DEEDS : ∃ t, mg "MOST_DEEDS" = some (.int 200 t)
  c_FILL : ∃ t, mg "FILL" = some (.str "fill" t)
  c_EMPTY : ∃ t, mg "EMPTY" = some (.str "empty" t)
  c_POUR : ∃ t, mg "POUR" = some (.str "pour" t)
  x_NoDeed : ∃ C, ExC K mg "NoDeed" C
  x_NoDeeds : ∃ C, ExC K mg "NoDeeds" C
  x_NoFilling : ∃ C, ExC K mg "NoFilling" C
  x_NoJugs : ∃ C, ExC K mg "NoJugs" C
  k_KitchenError : ∃ C, mg "KitchenError" = some (.ref C)
  k_NoDeed : ∃ C, mg "NoDeed" = some (.ref C)
  k_NoDeeds : ∃ C, mg "NoDeeds" = some (.ref C)
  k_NoFilling : ∃ C, mg "NoFilling" = some (.ref C)
  k_NoJugs : ∃ C, mg "NoJugs" = some (.ref C)
  k_TooMany : ∃ C, mg "TooMany" = some (.ref C)
  errs : ∀ x ∈ errL, ErrC K mg "KitchenError" (clsL.map fun n => (n, isa x n)) x
variable {P : Program} {w : World} {K : PySem.W.Frag} {mg : Str → Option Value} {base : Heap} {T : List (Addr × Str)}
/-! ### is_integer -/
abbrev N_is_integer : List Str := ["thing"]
theorem sc_is_integer : FnScope N_is_integer ["thing"] (defScope s_is_integer) := ⟨rfl, rfl, rfl, by decide +kernel, rfl, by decide +kernel, by decide +kernel⟩
theorem bi_is_integer : BindsBy "is_integer" s_is_integer ["thing"] := fun _ _ _ _ _ _ us hl => match us, hl with | [_], _ => rfl
def w_is_integer : WS := wRet (wAndV (wIsi isInt (wV 0)) (wNotV (wIsi isBool (wV 0))))
def isIntD : PyData → Bool
  | .int _ => true
  | _ => false
def C_is_integer : Ct := fun rs Q _ => ∃ x, rs = [.d x] ∧ Q (.d (.bool (isIntD x)))
theorem l_is_integer : ∀ rs Q X, C_is_integer rs Q X → rs.length = 1 := by
  rintro rs Q X ⟨x, rfl, _⟩
  rfl
theorem p_is_integer : ∀ rs Q X, C_is_integer rs Q X → w_is_integer ⟨fun _ => Q (.d .none), Q, fun _ => False, fun _ => False⟩ (startR N_is_integer rs) X := by
  rintro rs Q X ⟨x, rfl, h⟩
  (try simp only [sumDD, eqS, reprD, wV, wC, wNil, wCons, wTup, wLst, wOp, wUn, wCall, wT, wNot, wAnd, wOr, wB, wAndV, wOrV, wNotV, wIf, wIsi, wChain, wNo, wPart, wSl, wSet, wSetO, wTg, wPnil, wPcons, wPar, wNext, wSeq, wRet, wRetO, wRetN, wIfS, wBrk, wCnt, wDrop, wFrz, wApp, wExt, wSetIx, wAugIx, wAug, wRnil, wRcons, wFn, wRaise, wWord, wRetH, wSetIxH, wCount, wIndex, wIsE, wListRg1, wListRg2, wYes, wIs, wIz, wIl, wIt, wIr1, wIr2, wSlS, wPop, wAppPop, R.wk, R.st, R.ar, R.bl, R.no, R.sq, R.slot, setsR, startR, List.map_cons, List.map_nil, List.cons_append, List.nil_append, List.length_cons, List.length_nil, List.replicate, List.getElem?_cons_zero, List.getElem?_cons_succ, Option.some.injEq, exists_eq_left', exists_eq_left, R.d.injEq, R.own.injEq, R.fr.injEq, List.set_cons_zero, List.set_cons_succ, addD, subD, mulDD, fdivD, modD, ltD, leD, gtD, geD, eqD, neD, isND, isnotND, inDD, notInDD, ixD, negD, lenD, absD, intD, min2D, max2D, listD, tupleD, slD, Nat.reduceAdd, Nat.reduceSub, Nat.add_zero, Nat.zero_add, true_and, and_true, ite_true, ite_false, if_true, if_false, Bool.false_eq_true, reduceIte, Option.some_inj, Bool.true_eq_false, tgW, tgWs, wipe3, List.set_nil, w_is_integer])
  cases x <;> simp_all [isInt, isBool, isIntD]
theorem ok_is_integer (D : Txt K mg base T) : Cal false P w K mg base T 1 "is_integer" C_is_integer :=
  cal_of (wb := w_is_integer) D.d_is_integer sc_is_integer bi_is_integer l_is_integer (fun f cdv A outer s H E hp hr hgd => ess_one (es_ret (ev_and (ev_isi kit_int rfl D.n_isinstance bb_isinstance (ev_var (pv 0)) (pe_bltn rfl D.n_int bb_int rfl)) (ev_one (ev_not (ev_isi kit_bool rfl D.n_isinstance bb_isinstance (ev_var (pv 0)) (pe_bltn rfl D.n_bool bb_bool rfl))))))) p_is_integer
/-! ### is_within -/
abbrev N_is_within : List Str := ["thing", "low", "high"]
theorem sc_is_within : FnScope N_is_within ["thing", "low", "high"] (defScope s_is_within) := ⟨rfl, rfl, rfl, by decide +kernel, rfl, by decide +kernel, by decide +kernel⟩
theorem bi_is_within : BindsBy "is_within" s_is_within ["thing", "low", "high"] := fun _ _ _ _ _ _ us hl => match us, hl with | [_, _, _], _ => rfl
def w_is_within : WS := wRet (wAndV (wFn C_is_integer (wRcons (wV 0) (wRnil))) (wChain leD leD (wV 1) (wV 0) (wV 2)))
def within (x : PyData) (lo hi : Int) : Bool := match x with
  | .int i => decide (lo ≤ i) && decide (i ≤ hi)
  | _ => false
def C_is_within : Ct := fun rs Q _ => ∃ x lo hi, rs = [.d x, .d (.int lo), .d (.int hi)] ∧ Q (.d (.bool (within x lo hi)))
theorem l_is_within : ∀ rs Q X, C_is_within rs Q X → rs.length = 3 := by
  rintro rs Q X ⟨x, lo, hi, rfl, _⟩
  rfl
theorem p_is_within : ∀ rs Q X, C_is_within rs Q X → w_is_within ⟨fun _ => Q (.d .none), Q, fun _ => False, fun _ => False⟩ (startR N_is_within rs) X := by
  rintro rs Q X ⟨x, lo, hi, rfl, h⟩
  (try simp only [sumDD, eqS, reprD, wV, wC, wNil, wCons, wTup, wLst, wOp, wUn, wCall, wT, wNot, wAnd, wOr, wB, wAndV, wOrV, wNotV, wIf, wIsi, wChain, wNo, wPart, wSl, wSet, wSetO, wTg, wPnil, wPcons, wPar, wNext, wSeq, wRet, wRetO, wRetN, wIfS, wBrk, wCnt, wDrop, wFrz, wApp, wExt, wSetIx, wAugIx, wAug, wRnil, wRcons, wFn, wRaise, wWord, wRetH, wSetIxH, wCount, wIndex, wIsE, wListRg1, wListRg2, wYes, wIs, wIz, wIl, wIt, wIr1, wIr2, wSlS, wPop, wAppPop, R.wk, R.st, R.ar, R.bl, R.no, R.sq, R.slot, setsR, startR, List.map_cons, List.map_nil, List.cons_append, List.nil_append, List.length_cons, List.length_nil, List.replicate, List.getElem?_cons_zero, List.getElem?_cons_succ, Option.some.injEq, exists_eq_left', exists_eq_left, R.d.injEq, R.own.injEq, R.fr.injEq, List.set_cons_zero, List.set_cons_succ, addD, subD, mulDD, fdivD, modD, ltD, leD, gtD, geD, eqD, neD, isND, isnotND, inDD, notInDD, ixD, negD, lenD, absD, intD, min2D, max2D, listD, tupleD, slD, Nat.reduceAdd, Nat.reduceSub, Nat.add_zero, Nat.zero_add, true_and, and_true, ite_true, ite_false, if_true, if_false, Bool.false_eq_true, reduceIte, Option.some_inj, Bool.true_eq_false, tgW, tgWs, wipe3, List.set_nil, w_is_within, C_is_integer])
  refine ⟨x, rfl, ?_⟩
  cases x <;> simp_all [isIntD, within, R.bl, R.no]
  split <;> simp_all
theorem ok_is_within (D : Txt K mg base T) : Cal false P w K mg base T 2 "is_within" C_is_within :=
  cal_of (wb := w_is_within) D.d_is_within sc_is_within bi_is_within l_is_within (fun f cdv A outer s H E hp hr hgd => ess_one (es_ret (ev_and (ev_fnC (ok_is_integer D) hr (by decide) (fun h => by cases h) rfl pass_cx (er_cons (ev_var (pv 0)) (er_nil))) (ev_one (ev_chain op_leD op_leD (ev_var (pv 1)) (ev_var (pv 0)) (ev_var (pv 2))))))) p_is_within
/-! ### is_sized -/
abbrev N_is_sized : List Str := ["thing", "low", "high"]
theorem sc_is_sized : FnScope N_is_sized ["thing", "low", "high"] (defScope s_is_sized) := ⟨rfl, rfl, rfl, by decide +kernel, rfl, by decide +kernel, by decide +kernel⟩
theorem bi_is_sized : BindsBy "is_sized" s_is_sized ["thing", "low", "high"] := fun _ _ _ _ _ _ us hl => match us, hl with | [_, _, _], _ => rfl
def w_is_sized : WS := wRet (wAndV (wIsi isTup (wV 0)) (wChain leD leD (wV 1) (wCall lenD (wCons R.wk (wV 0) (wNil))) (wV 2)))
def sized (x : PyData) (lo hi : Int) : Bool := match x with
  | .tuple xs => decide (lo ≤ xs.length) && decide ((xs.length : Int) ≤ hi)
  | _ => false
def C_is_sized : Ct := fun rs Q _ => ∃ x lo hi, rs = [.d x, .d (.int lo), .d (.int hi)] ∧ Q (.d (.bool (sized x lo hi)))
theorem l_is_sized : ∀ rs Q X, C_is_sized rs Q X → rs.length = 3 := by
  rintro rs Q X ⟨x, lo, hi, rfl, _⟩
  rfl
theorem p_is_sized : ∀ rs Q X, C_is_sized rs Q X → w_is_sized ⟨fun _ => Q (.d .none), Q, fun _ => False, fun _ => False⟩ (startR N_is_sized rs) X := by
  rintro rs Q X ⟨x, lo, hi, rfl, h⟩
  (try simp only [sumDD, eqS, reprD, wV, wC, wNil, wCons, wTup, wLst, wOp, wUn, wCall, wT, wNot, wAnd, wOr, wB, wAndV, wOrV, wNotV, wIf, wIsi, wChain, wNo, wPart, wSl, wSet, wSetO, wTg, wPnil, wPcons, wPar, wNext, wSeq, wRet, wRetO, wRetN, wIfS, wBrk, wCnt, wDrop, wFrz, wApp, wExt, wSetIx, wAugIx, wAug, wRnil, wRcons, wFn, wRaise, wWord, wRetH, wSetIxH, wCount, wIndex, wIsE, wListRg1, wListRg2, wYes, wIs, wIz, wIl, wIt, wIr1, wIr2, wSlS, wPop, wAppPop, R.wk, R.st, R.ar, R.bl, R.no, R.sq, R.slot, setsR, startR, List.map_cons, List.map_nil, List.cons_append, List.nil_append, List.length_cons, List.length_nil, List.replicate, List.getElem?_cons_zero, List.getElem?_cons_succ, Option.some.injEq, exists_eq_left', exists_eq_left, R.d.injEq, R.own.injEq, R.fr.injEq, List.set_cons_zero, List.set_cons_succ, addD, subD, mulDD, fdivD, modD, ltD, leD, gtD, geD, eqD, neD, isND, isnotND, inDD, notInDD, ixD, negD, lenD, absD, intD, min2D, max2D, listD, tupleD, slD, Nat.reduceAdd, Nat.reduceSub, Nat.add_zero, Nat.zero_add, true_and, and_true, ite_true, ite_false, if_true, if_false, Bool.false_eq_true, reduceIte, Option.some_inj, Bool.true_eq_false, tgW, tgWs, wipe3, List.set_nil, w_is_sized])
  cases x <;> simp_all [isTup, sized, R.bl, R.no]
  split <;> simp_all
theorem ok_is_sized (D : Txt K mg base T) : Cal false P w K mg base T 1 "is_sized" C_is_sized :=
  cal_of (wb := w_is_sized) D.d_is_sized sc_is_sized bi_is_sized l_is_sized (fun f cdv A outer s H E hp hr hgd => ess_one (es_ret (ev_and (ev_isi kit_tup rfl D.n_isinstance bb_isinstance (ev_var (pv 0)) (pe_bltn rfl D.n_tuple bb_tuple rfl)) (ev_one (ev_chain op_leD op_leD (ev_var (pv 1)) (ev_callB cr_len rfl D.n_len bb_len (el_cons selW (ev_var (pv 0)) (el_nil))) (ev_var (pv 2))))))) p_is_sized
/-! ### check_jugs -/
abbrev N_check_jugs : List Str := ["thing", "one"]
theorem sc_check_jugs : FnScope N_check_jugs ["thing"] (defScope s_check_jugs) := ⟨rfl, rfl, rfl, by decide +kernel, rfl, by decide +kernel, by decide +kernel⟩
theorem bi_check_jugs : BindsBy "check_jugs" s_check_jugs ["thing"] := fun _ _ _ _ _ _ us hl => match us, hl with | [_], _ => rfl
def w_check_jugs : WS := wIfS (wOr (wNot (wT (wFn C_is_sized (wRcons (wV 0) (wRcons (wC (.int 1)) (wRcons (wC (.int 4)) (wRnil))))))) (wNot (wT (wCall allD (wCons R.wk (wLc (wIs (wV 0)) (.one 1) wYes (wFn C_is_within (wRcons (wV 1) (wRcons (wC (.int 1)) (wRcons (wC (.int 12)) (wRnil))))) [1]) (wNil)))))) (wRaise "NoJugs") (wNext)
def okJugs (x : PyData) : Bool := match x with
  | .tuple xs => sized x 1 4 && xs.all (within · 1 12)
  | _ => false
def C_check_jugs : Ct := fun rs Q X => ∃ x, rs = [.d x] ∧ (okJugs x = true → Q (.d .none)) ∧ (okJugs x = false → X ⟨"NoJugs", none⟩)
theorem l_check_jugs : ∀ rs Q X, C_check_jugs rs Q X → rs.length = 1 := by
  rintro rs Q X ⟨x, rfl, _⟩
  rfl
theorem p_check_jugs : ∀ rs Q X, C_check_jugs rs Q X → w_check_jugs ⟨fun _ => Q (.d .none), Q, fun _ => False, fun _ => False⟩ (startR N_check_jugs rs) X := by
  rintro rs Q X ⟨x, rfl, h1, h2⟩
  (try simp only [sumDD, eqS, reprD, wV, wC, wNil, wCons, wTup, wLst, wOp, wUn, wCall, wT, wNot, wAnd, wOr, wB, wAndV, wOrV, wNotV, wIf, wIsi, wChain, wNo, wPart, wSl, wSet, wSetO, wTg, wPnil, wPcons, wPar, wNext, wSeq, wRet, wRetO, wRetN, wIfS, wBrk, wCnt, wDrop, wFrz, wApp, wExt, wSetIx, wAugIx, wAug, wRnil, wRcons, wFn, wRaise, wWord, wRetH, wSetIxH, wCount, wIndex, wIsE, wListRg1, wListRg2, wYes, wIs, wIz, wIl, wIt, wIr1, wIr2, wSlS, wPop, wAppPop, R.wk, R.st, R.ar, R.bl, R.no, R.sq, R.slot, setsR, startR, List.map_cons, List.map_nil, List.cons_append, List.nil_append, List.length_cons, List.length_nil, List.replicate, List.getElem?_cons_zero, List.getElem?_cons_succ, Option.some.injEq, exists_eq_left', exists_eq_left, R.d.injEq, R.own.injEq, R.fr.injEq, List.set_cons_zero, List.set_cons_succ, addD, subD, mulDD, fdivD, modD, ltD, leD, gtD, geD, eqD, neD, isND, isnotND, inDD, notInDD, ixD, negD, lenD, absD, intD, min2D, max2D, listD, tupleD, slD, Nat.reduceAdd, Nat.reduceSub, Nat.add_zero, Nat.zero_add, true_and, and_true, ite_true, ite_false, if_true, if_false, Bool.false_eq_true, reduceIte, Option.some_inj, Bool.true_eq_false, tgW, tgWs, wipe3, List.set_nil, w_check_jugs, C_is_sized])
  refine ⟨x, 1, 4, rfl, ?_⟩
  (try simp only [sumDD, eqS, reprD, wV, wC, wNil, wCons, wTup, wLst, wOp, wUn, wCall, wT, wNot, wAnd, wOr, wB, wAndV, wOrV, wNotV, wIf, wIsi, wChain, wNo, wPart, wSl, wSet, wSetO, wTg, wPnil, wPcons, wPar, wNext, wSeq, wRet, wRetO, wRetN, wIfS, wBrk, wCnt, wDrop, wFrz, wApp, wExt, wSetIx, wAugIx, wAug, wRnil, wRcons, wFn, wRaise, wWord, wRetH, wSetIxH, wCount, wIndex, wIsE, wListRg1, wListRg2, wYes, wIs, wIz, wIl, wIt, wIr1, wIr2, wSlS, wPop, wAppPop, R.wk, R.st, R.ar, R.bl, R.no, R.sq, R.slot, setsR, startR, List.map_cons, List.map_nil, List.cons_append, List.nil_append, List.length_cons, List.length_nil, List.replicate, List.getElem?_cons_zero, List.getElem?_cons_succ, Option.some.injEq, exists_eq_left', exists_eq_left, R.d.injEq, R.own.injEq, R.fr.injEq, List.set_cons_zero, List.set_cons_succ, addD, subD, mulDD, fdivD, modD, ltD, leD, gtD, geD, eqD, neD, isND, isnotND, inDD, notInDD, ixD, negD, lenD, absD, intD, min2D, max2D, listD, tupleD, slD, Nat.reduceAdd, Nat.reduceSub, Nat.add_zero, Nat.zero_add, true_and, and_true, ite_true, ite_false, if_true, if_false, Bool.false_eq_true, reduceIte, Option.some_inj, Bool.true_eq_false, tgW, tgWs, wipe3, List.set_nil])
  cases x with
  | tuple xs =>
    cases hs : sized (.tuple xs) 1 4 with
    | false => simp [okJugs, hs] at h2 ⊢; exact h2
    | true =>
      (try simp only [sumDD, eqS, reprD, wV, wC, wNil, wCons, wTup, wLst, wOp, wUn, wCall, wT, wNot, wAnd, wOr, wB, wAndV, wOrV, wNotV, wIf, wIsi, wChain, wNo, wPart, wSl, wSet, wSetO, wTg, wPnil, wPcons, wPar, wNext, wSeq, wRet, wRetO, wRetN, wIfS, wBrk, wCnt, wDrop, wFrz, wApp, wExt, wSetIx, wAugIx, wAug, wRnil, wRcons, wFn, wRaise, wWord, wRetH, wSetIxH, wCount, wIndex, wIsE, wListRg1, wListRg2, wYes, wIs, wIz, wIl, wIt, wIr1, wIr2, wSlS, wPop, wAppPop, R.wk, R.st, R.ar, R.bl, R.no, R.sq, R.slot, setsR, startR, List.map_cons, List.map_nil, List.cons_append, List.nil_append, List.length_cons, List.length_nil, List.replicate, List.getElem?_cons_zero, List.getElem?_cons_succ, Option.some.injEq, exists_eq_left', exists_eq_left, R.d.injEq, R.own.injEq, R.fr.injEq, List.set_cons_zero, List.set_cons_succ, addD, subD, mulDD, fdivD, modD, ltD, leD, gtD, geD, eqD, neD, isND, isnotND, inDD, notInDD, ixD, negD, lenD, absD, intD, min2D, max2D, listD, tupleD, slD, Nat.reduceAdd, Nat.reduceSub, Nat.add_zero, Nat.zero_add, true_and, and_true, ite_true, ite_false, if_true, if_false, Bool.false_eq_true, reduceIte, Option.some_inj, Bool.true_eq_false, tgW, tgWs, wipe3, List.set_nil, wLc, Bool.not_true])
      refine lc_map (fun y => .bool (within y 1 12)) xs (fun y hy k hk => ?_) ?_
      · (try simp only [sumDD, eqS, reprD, wV, wC, wNil, wCons, wTup, wLst, wOp, wUn, wCall, wT, wNot, wAnd, wOr, wB, wAndV, wOrV, wNotV, wIf, wIsi, wChain, wNo, wPart, wSl, wSet, wSetO, wTg, wPnil, wPcons, wPar, wNext, wSeq, wRet, wRetO, wRetN, wIfS, wBrk, wCnt, wDrop, wFrz, wApp, wExt, wSetIx, wAugIx, wAug, wRnil, wRcons, wFn, wRaise, wWord, wRetH, wSetIxH, wCount, wIndex, wIsE, wListRg1, wListRg2, wYes, wIs, wIz, wIl, wIt, wIr1, wIr2, wSlS, wPop, wAppPop, R.wk, R.st, R.ar, R.bl, R.no, R.sq, R.slot, setsR, startR, List.map_cons, List.map_nil, List.cons_append, List.nil_append, List.length_cons, List.length_nil, List.replicate, List.getElem?_cons_zero, List.getElem?_cons_succ, Option.some.injEq, exists_eq_left', exists_eq_left, R.d.injEq, R.own.injEq, R.fr.injEq, List.set_cons_zero, List.set_cons_succ, addD, subD, mulDD, fdivD, modD, ltD, leD, gtD, geD, eqD, neD, isND, isnotND, inDD, notInDD, ixD, negD, lenD, absD, intD, min2D, max2D, listD, tupleD, slD, Nat.reduceAdd, Nat.reduceSub, Nat.add_zero, Nat.zero_add, true_and, and_true, ite_true, ite_false, if_true, if_false, Bool.false_eq_true, reduceIte, Option.some_inj, Bool.true_eq_false, tgW, tgWs, wipe3, List.set_nil, C_is_within])
        exact ⟨y, 1, 12, rfl, hk⟩
      · (try simp only [sumDD, eqS, reprD, wV, wC, wNil, wCons, wTup, wLst, wOp, wUn, wCall, wT, wNot, wAnd, wOr, wB, wAndV, wOrV, wNotV, wIf, wIsi, wChain, wNo, wPart, wSl, wSet, wSetO, wTg, wPnil, wPcons, wPar, wNext, wSeq, wRet, wRetO, wRetN, wIfS, wBrk, wCnt, wDrop, wFrz, wApp, wExt, wSetIx, wAugIx, wAug, wRnil, wRcons, wFn, wRaise, wWord, wRetH, wSetIxH, wCount, wIndex, wIsE, wListRg1, wListRg2, wYes, wIs, wIz, wIl, wIt, wIr1, wIr2, wSlS, wPop, wAppPop, R.wk, R.st, R.ar, R.bl, R.no, R.sq, R.slot, setsR, startR, List.map_cons, List.map_nil, List.cons_append, List.nil_append, List.length_cons, List.length_nil, List.replicate, List.getElem?_cons_zero, List.getElem?_cons_succ, Option.some.injEq, exists_eq_left', exists_eq_left, R.d.injEq, R.own.injEq, R.fr.injEq, List.set_cons_zero, List.set_cons_succ, addD, subD, mulDD, fdivD, modD, ltD, leD, gtD, geD, eqD, neD, isND, isnotND, inDD, notInDD, ixD, negD, lenD, absD, intD, min2D, max2D, listD, tupleD, slD, Nat.reduceAdd, Nat.reduceSub, Nat.add_zero, Nat.zero_add, true_and, and_true, ite_true, ite_false, if_true, if_false, Bool.false_eq_true, reduceIte, Option.some_inj, Bool.true_eq_false, tgW, tgWs, wipe3, List.set_nil, allD])
        refine ⟨xs.map (within · 1 12), by rw [List.map_map]; rfl, ?_⟩
        (try simp only [sumDD, eqS, reprD, wV, wC, wNil, wCons, wTup, wLst, wOp, wUn, wCall, wT, wNot, wAnd, wOr, wB, wAndV, wOrV, wNotV, wIf, wIsi, wChain, wNo, wPart, wSl, wSet, wSetO, wTg, wPnil, wPcons, wPar, wNext, wSeq, wRet, wRetO, wRetN, wIfS, wBrk, wCnt, wDrop, wFrz, wApp, wExt, wSetIx, wAugIx, wAug, wRnil, wRcons, wFn, wRaise, wWord, wRetH, wSetIxH, wCount, wIndex, wIsE, wListRg1, wListRg2, wYes, wIs, wIz, wIl, wIt, wIr1, wIr2, wSlS, wPop, wAppPop, R.wk, R.st, R.ar, R.bl, R.no, R.sq, R.slot, setsR, startR, List.map_cons, List.map_nil, List.cons_append, List.nil_append, List.length_cons, List.length_nil, List.replicate, List.getElem?_cons_zero, List.getElem?_cons_succ, Option.some.injEq, exists_eq_left', exists_eq_left, R.d.injEq, R.own.injEq, R.fr.injEq, List.set_cons_zero, List.set_cons_succ, addD, subD, mulDD, fdivD, modD, ltD, leD, gtD, geD, eqD, neD, isND, isnotND, inDD, notInDD, ixD, negD, lenD, absD, intD, min2D, max2D, listD, tupleD, slD, Nat.reduceAdd, Nat.reduceSub, Nat.add_zero, Nat.zero_add, true_and, and_true, ite_true, ite_false, if_true, if_false, Bool.false_eq_true, reduceIte, Option.some_inj, Bool.true_eq_false, tgW, tgWs, wipe3, List.set_nil])
        rw [List.all_map]
        cases ha : xs.all (within · 1 12) with
        | true =>
          have e : xs.all (id ∘ fun x => within x 1 12) = true := ha
          rw [e]
          exact h1 (by simp [okJugs, hs, ha])
        | false =>
          have e : xs.all (id ∘ fun x => within x 1 12) = false := ha
          rw [e]
          exact h2 (by simp [okJugs, hs, ha])
  | _ =>
    simp [sized]
    exact h2 rfl
theorem ok_check_jugs (D : Txt K mg base T) : Cal false P w K mg base T 3 "check_jugs" C_check_jugs :=
  cal_of (wb := w_check_jugs) D.d_check_jugs sc_check_jugs bi_check_jugs l_check_jugs (fun f cdv A outer s H E hp hr hgd => ess_one (es_if (PW.pt (ew_or (et_not (et_val (ev_fnC (ok_is_sized D) hr (by decide) (fun h => by cases h) rfl pass_cx (er_cons (ev_var (pv 0)) (er_cons (ev_int) (er_cons (ev_gi rfl D.c_MOST_JUGS) (er_nil))))))) (ew_or1 (et_not (et_val (ev_callB (cr_allD rfl) rfl D.n_all bb_all (el_cons selW (ev_lc (own := [("one", 1)]) (g := .one 1) rfl sc_check_jugs.nd (ei_seq (ev_var (pv 0))) (blkOk_by (N := N_check_jugs) (sc := defScope s_check_jugs) (by decide +kernel)) (by decide) (fun _ _ _ _ _ => pg_name (i := 1) sc_check_jugs.nd rfl (Or.inl rfl)) (fun _ _ _ _ _ => eb_yes) (fun _ _ _ _ _ => ev_fnC (ok_is_within D) hr (by decide) (fun h => by cases h) rfl passL (er_cons (ev_var (pv 1)) (er_cons (ev_int) (er_cons (ev_gi rfl D.c_MOST_SIZE) (er_nil)))))) (el_nil)))))))) (ess_one (es_raiseE rfl (takes_of rfl rfl rfl rfl) D.x_NoJugs rfl)) (ess_nil))) p_check_jugs
/-! ### is_filling -/
abbrev N_is_filling : List Str := ["jugs", "thing", "much", "size"]
theorem sc_is_filling : FnScope N_is_filling ["jugs", "thing"] (defScope s_is_filling) := ⟨rfl, rfl, rfl, by decide +kernel, rfl, by decide +kernel, by decide +kernel⟩
theorem bi_is_filling : BindsBy "is_filling" s_is_filling ["jugs", "thing"] := fun _ _ _ _ _ _ us hl => match us, hl with | [_, _], _ => rfl
def w_is_filling : WS := wSeq (wIfS (wNot (wT (wFn C_is_sized (wRcons (wV 1) (wRcons (wCall lenD (wCons R.wk (wV 0) (wNil))) (wRcons (wCall lenD (wCons R.wk (wV 0) (wNil))) (wRnil))))))) (wRet (wC (.bool false))) (wNext)) (wRet (wCall allD (wCons R.wk (wLc (wIz (wV 1) (wV 0)) (.tup [.one 2, .one 3]) wYes (wFn C_is_within (wRcons (wV 2) (wRcons (wC (.int 0)) (wRcons (wV 3) (wRnil))))) [2, 3]) (wNil))))
abbrev tupI (ns : List Int) : PyData := .tuple (ns.map .int)
def fillOk (js : List Int) (y : PyData) : Bool := match y with
  | .tuple ys => sized y js.length js.length && (ys.zip js).all fun p => within p.1 0 p.2
  | _ => false
theorem zipD_ints : ∀ (ys : List PyData) (js : List Int), zipD ys (js.map .int) = (ys.zip js).map fun p => .tuple [p.1, .int p.2]
  | [], js => by simp [zipD]
  | _ :: _, [] => by simp [zipD]
  | y :: ys, j :: js => by
    have ih := zipD_ints ys js
    simp [zipD, ih]
def C_is_filling : Ct := fun rs Q _ => ∃ js y, rs = [.d (tupI js), .d y] ∧ Q (.d (.bool (fillOk js y)))
theorem l_is_filling : ∀ rs Q X, C_is_filling rs Q X → rs.length = 2 := by
  rintro rs Q X ⟨x, y, rfl, _⟩
  rfl
theorem p_is_filling : ∀ rs Q X, C_is_filling rs Q X → w_is_filling ⟨fun _ => Q (.d .none), Q, fun _ => False, fun _ => False⟩ (startR N_is_filling rs) X := by
  rintro rs Q X ⟨js, y, rfl, h⟩
  (try simp only [sumDD, eqS, reprD, wV, wC, wNil, wCons, wTup, wLst, wOp, wUn, wCall, wT, wNot, wAnd, wOr, wB, wAndV, wOrV, wNotV, wIf, wIsi, wChain, wNo, wPart, wSl, wSet, wSetO, wTg, wPnil, wPcons, wPar, wNext, wSeq, wRet, wRetO, wRetN, wIfS, wBrk, wCnt, wDrop, wFrz, wApp, wExt, wSetIx, wAugIx, wAug, wRnil, wRcons, wFn, wRaise, wWord, wRetH, wSetIxH, wCount, wIndex, wIsE, wListRg1, wListRg2, wYes, wIs, wIz, wIl, wIt, wIr1, wIr2, wSlS, wPop, wAppPop, R.wk, R.st, R.ar, R.bl, R.no, R.sq, R.slot, setsR, startR, List.map_cons, List.map_nil, List.cons_append, List.nil_append, List.length_cons, List.length_nil, List.replicate, List.getElem?_cons_zero, List.getElem?_cons_succ, Option.some.injEq, exists_eq_left', exists_eq_left, R.d.injEq, R.own.injEq, R.fr.injEq, List.set_cons_zero, List.set_cons_succ, addD, subD, mulDD, fdivD, modD, ltD, leD, gtD, geD, eqD, neD, isND, isnotND, inDD, notInDD, ixD, negD, lenD, absD, intD, min2D, max2D, listD, tupleD, slD, Nat.reduceAdd, Nat.reduceSub, Nat.add_zero, Nat.zero_add, true_and, and_true, ite_true, ite_false, if_true, if_false, Bool.false_eq_true, reduceIte, Option.some_inj, Bool.true_eq_false, tgW, tgWs, wipe3, List.set_nil, w_is_filling, C_is_sized])
  refine ⟨y, ((js.map PyData.int).length : Int), ((js.map PyData.int).length : Int), rfl, ?_⟩
  (try simp only [sumDD, eqS, reprD, wV, wC, wNil, wCons, wTup, wLst, wOp, wUn, wCall, wT, wNot, wAnd, wOr, wB, wAndV, wOrV, wNotV, wIf, wIsi, wChain, wNo, wPart, wSl, wSet, wSetO, wTg, wPnil, wPcons, wPar, wNext, wSeq, wRet, wRetO, wRetN, wIfS, wBrk, wCnt, wDrop, wFrz, wApp, wExt, wSetIx, wAugIx, wAug, wRnil, wRcons, wFn, wRaise, wWord, wRetH, wSetIxH, wCount, wIndex, wIsE, wListRg1, wListRg2, wYes, wIs, wIz, wIl, wIt, wIr1, wIr2, wSlS, wPop, wAppPop, R.wk, R.st, R.ar, R.bl, R.no, R.sq, R.slot, setsR, startR, List.map_cons, List.map_nil, List.cons_append, List.nil_append, List.length_cons, List.length_nil, List.replicate, List.getElem?_cons_zero, List.getElem?_cons_succ, Option.some.injEq, exists_eq_left', exists_eq_left, R.d.injEq, R.own.injEq, R.fr.injEq, List.set_cons_zero, List.set_cons_succ, addD, subD, mulDD, fdivD, modD, ltD, leD, gtD, geD, eqD, neD, isND, isnotND, inDD, notInDD, ixD, negD, lenD, absD, intD, min2D, max2D, listD, tupleD, slD, Nat.reduceAdd, Nat.reduceSub, Nat.add_zero, Nat.zero_add, true_and, and_true, ite_true, ite_false, if_true, if_false, Bool.false_eq_true, reduceIte, Option.some_inj, Bool.true_eq_false, tgW, tgWs, wipe3, List.set_nil, List.length_map])
  cases y with
  | tuple xs =>
    cases hs : sized (.tuple xs) js.length js.length with
    | false => simpa [fillOk, hs, R.no] using h
    | true =>
      (try simp only [sumDD, eqS, reprD, wV, wC, wNil, wCons, wTup, wLst, wOp, wUn, wCall, wT, wNot, wAnd, wOr, wB, wAndV, wOrV, wNotV, wIf, wIsi, wChain, wNo, wPart, wSl, wSet, wSetO, wTg, wPnil, wPcons, wPar, wNext, wSeq, wRet, wRetO, wRetN, wIfS, wBrk, wCnt, wDrop, wFrz, wApp, wExt, wSetIx, wAugIx, wAug, wRnil, wRcons, wFn, wRaise, wWord, wRetH, wSetIxH, wCount, wIndex, wIsE, wListRg1, wListRg2, wYes, wIs, wIz, wIl, wIt, wIr1, wIr2, wSlS, wPop, wAppPop, R.wk, R.st, R.ar, R.bl, R.no, R.sq, R.slot, setsR, startR, List.map_cons, List.map_nil, List.cons_append, List.nil_append, List.length_cons, List.length_nil, List.replicate, List.getElem?_cons_zero, List.getElem?_cons_succ, Option.some.injEq, exists_eq_left', exists_eq_left, R.d.injEq, R.own.injEq, R.fr.injEq, List.set_cons_zero, List.set_cons_succ, addD, subD, mulDD, fdivD, modD, ltD, leD, gtD, geD, eqD, neD, isND, isnotND, inDD, notInDD, ixD, negD, lenD, absD, intD, min2D, max2D, listD, tupleD, slD, Nat.reduceAdd, Nat.reduceSub, Nat.add_zero, Nat.zero_add, true_and, and_true, ite_true, ite_false, if_true, if_false, Bool.false_eq_true, reduceIte, Option.some_inj, Bool.true_eq_false, tgW, tgWs, wipe3, List.set_nil, wLc, Bool.not_true])
      rw [zipD_ints]
      refine lc_map (fun y => match y with | .tuple [a, .int b] => .bool (within a 0 b) | _ => .none) _ (fun y hy k hk => ?_) ?_
      · obtain ⟨p, hp, rfl⟩ := List.mem_map.mp hy
        (try simp only [sumDD, eqS, reprD, wV, wC, wNil, wCons, wTup, wLst, wOp, wUn, wCall, wT, wNot, wAnd, wOr, wB, wAndV, wOrV, wNotV, wIf, wIsi, wChain, wNo, wPart, wSl, wSet, wSetO, wTg, wPnil, wPcons, wPar, wNext, wSeq, wRet, wRetO, wRetN, wIfS, wBrk, wCnt, wDrop, wFrz, wApp, wExt, wSetIx, wAugIx, wAug, wRnil, wRcons, wFn, wRaise, wWord, wRetH, wSetIxH, wCount, wIndex, wIsE, wListRg1, wListRg2, wYes, wIs, wIz, wIl, wIt, wIr1, wIr2, wSlS, wPop, wAppPop, R.wk, R.st, R.ar, R.bl, R.no, R.sq, R.slot, setsR, startR, List.map_cons, List.map_nil, List.cons_append, List.nil_append, List.length_cons, List.length_nil, List.replicate, List.getElem?_cons_zero, List.getElem?_cons_succ, Option.some.injEq, exists_eq_left', exists_eq_left, R.d.injEq, R.own.injEq, R.fr.injEq, List.set_cons_zero, List.set_cons_succ, addD, subD, mulDD, fdivD, modD, ltD, leD, gtD, geD, eqD, neD, isND, isnotND, inDD, notInDD, ixD, negD, lenD, absD, intD, min2D, max2D, listD, tupleD, slD, Nat.reduceAdd, Nat.reduceSub, Nat.add_zero, Nat.zero_add, true_and, and_true, ite_true, ite_false, if_true, if_false, Bool.false_eq_true, reduceIte, Option.some_inj, Bool.true_eq_false, tgW, tgWs, wipe3, List.set_nil, C_is_within])
        exact ⟨p.1, 0, p.2, rfl, hk⟩
      · (try simp only [sumDD, eqS, reprD, wV, wC, wNil, wCons, wTup, wLst, wOp, wUn, wCall, wT, wNot, wAnd, wOr, wB, wAndV, wOrV, wNotV, wIf, wIsi, wChain, wNo, wPart, wSl, wSet, wSetO, wTg, wPnil, wPcons, wPar, wNext, wSeq, wRet, wRetO, wRetN, wIfS, wBrk, wCnt, wDrop, wFrz, wApp, wExt, wSetIx, wAugIx, wAug, wRnil, wRcons, wFn, wRaise, wWord, wRetH, wSetIxH, wCount, wIndex, wIsE, wListRg1, wListRg2, wYes, wIs, wIz, wIl, wIt, wIr1, wIr2, wSlS, wPop, wAppPop, R.wk, R.st, R.ar, R.bl, R.no, R.sq, R.slot, setsR, startR, List.map_cons, List.map_nil, List.cons_append, List.nil_append, List.length_cons, List.length_nil, List.replicate, List.getElem?_cons_zero, List.getElem?_cons_succ, Option.some.injEq, exists_eq_left', exists_eq_left, R.d.injEq, R.own.injEq, R.fr.injEq, List.set_cons_zero, List.set_cons_succ, addD, subD, mulDD, fdivD, modD, ltD, leD, gtD, geD, eqD, neD, isND, isnotND, inDD, notInDD, ixD, negD, lenD, absD, intD, min2D, max2D, listD, tupleD, slD, Nat.reduceAdd, Nat.reduceSub, Nat.add_zero, Nat.zero_add, true_and, and_true, ite_true, ite_false, if_true, if_false, Bool.false_eq_true, reduceIte, Option.some_inj, Bool.true_eq_false, tgW, tgWs, wipe3, List.set_nil, allD, List.map_map])
        refine ⟨(xs.zip js).map fun p => within p.1 0 p.2, by rw [List.map_map]; rfl, ?_⟩
        rw [List.all_map]
        have e : fillOk js (.tuple xs) = (xs.zip js).all (id ∘ fun p => within p.1 0 p.2) := by simp [fillOk, hs]
        rw [← e]
        exact h
  | _ =>
    simpa [sized, fillOk, R.no] using h
theorem ok_is_filling (D : Txt K mg base T) : Cal false P w K mg base T 3 "is_filling" C_is_filling :=
  cal_of (wb := w_is_filling) D.d_is_filling sc_is_filling bi_is_filling l_is_filling (fun f cdv A outer s H E hp hr hgd => ess_cons (es_if (et_not (et_val (ev_fnC (ok_is_sized D) hr (by decide) (fun h => by cases h) rfl pass_cx (er_cons (ev_var (pv 1)) (er_cons (ev_callB cr_len rfl D.n_len bb_len (el_cons selW (ev_var (pv 0)) (el_nil))) (er_cons (ev_callB cr_len rfl D.n_len bb_len (el_cons selW (ev_var (pv 0)) (el_nil))) (er_nil))))))) (ess_one (es_ret (ev_bl))) (ess_nil)) (ess_one (es_ret (ev_callB (cr_allD rfl) rfl D.n_all bb_all (el_cons selW (ev_lc (own := [("much", 2), ("size", 3)]) (g := .tup [.one 2, .one 3]) rfl sc_is_filling.nd (ei_zip rfl D.n_zip (ev_var (pv 1)) (ev_var (pv 0))) (blkOk_by (N := N_is_filling) (sc := defScope s_is_filling) (by decide +kernel)) (by decide) (fun _ _ _ _ _ => pg_tup rfl (pgs_cons (pg_name (i := 2) sc_is_filling.nd rfl (Or.inl rfl)) (pgs_cons (pg_name (i := 3) sc_is_filling.nd rfl (Or.inl rfl)) (pgs_nil)))) (fun _ _ _ _ _ => eb_yes) (fun _ _ _ _ _ => ev_fnC (ok_is_within D) hr (by decide) (fun h => by cases h) rfl passL (er_cons (ev_var (pv 2)) (er_cons (ev_int) (er_cons (ev_var (pv 3)) (er_nil)))))) (el_nil)))))) p_is_filling
/-! ### is_deed -/
abbrev N_is_deed : List Str := ["jugs", "thing", "one"]
theorem sc_is_deed : FnScope N_is_deed ["jugs", "thing"] (defScope s_is_deed) := ⟨rfl, rfl, rfl, by decide +kernel, rfl, by decide +kernel, by decide +kernel⟩
theorem bi_is_deed : BindsBy "is_deed" s_is_deed ["jugs", "thing"] := fun _ _ _ _ _ _ us hl => match us, hl with | [_, _], _ => rfl
def w_is_deed : WS := wSeq (wIfS (wOr (wNot (wT (wFn C_is_sized (wRcons (wV 1) (wRcons (wC (.int 2)) (wRcons (wC (.int 3)) (wRnil))))))) (wNot (wT (wIsi isStr (wOp ixD (wV 1) (wC (.int 0))))))) (wRet (wC (.bool false))) (wNext)) (wSeq (wIfS (wNot (wT (wCall allD (wCons R.wk (wLc (wIs (wSl (wV 1) (wPart (wC (.int 1))) wNo)) (.one 2) wYes (wFn C_is_within (wRcons (wV 2) (wRcons (wC (.int 0)) (wRcons (wOp subD (wCall lenD (wCons R.wk (wV 0) (wNil))) (wC (.int 1))) (wRnil))))) [2]) (wNil))))) (wRet (wC (.bool false))) (wNext)) (wSeq (wIfS (wT (wOp eqD (wOp ixD (wV 1) (wC (.int 0))) (wC (.str "pour")))) (wRet (wAndV (wOp eqD (wCall lenD (wCons R.wk (wV 1) (wNil))) (wC (.int 3))) (wOp neD (wOp ixD (wV 1) (wC (.int 1))) (wOp ixD (wV 1) (wC (.int 2)))))) (wNext)) (wRet (wAndV (wOp inDD (wOp ixD (wV 1) (wC (.int 0))) (wTup (wCons R.st (wC (.str "fill")) (wCons R.st (wC (.str "empty")) (wNil))))) (wOp eqD (wCall lenD (wCons R.wk (wV 1) (wNil))) (wC (.int 2)))))))
inductive Deed where
  | fill (i : Nat) | empty (i : Nat) | pour (i j : Nat)
def Deed.toD : Deed → PyData
  | .fill i => .tuple [.str "fill", .int i]
  | .empty i => .tuple [.str "empty", .int i]
  | .pour i j => .tuple [.str "pour", .int i, .int j]
def Deed.ok (n : Nat) : Deed → Bool
  | .fill i => decide (i < n)
  | .empty i => decide (i < n)
  | .pour i j => decide (i < n) && decide (j < n) && decide (i ≠ j)
def deedOk (n : Nat) (y : PyData) : Bool := match y with
  | .tuple [.str k, a] => within a 0 (n - 1) && (decide (k = "fill") || decide (k = "empty"))
  | .tuple [.str k, .int a, .int b] => within (.int a) 0 (n - 1) && within (.int b) 0 (n - 1) && decide (k = "pour") && decide (a ≠ b)
  | _ => false
/-- the text ahead may be laid -/
def headOk (y : PyData) : Prop := ∀ k r, y = .tuple (.str k :: r) → SeqAt.shaped (.str k) = true
def C_is_deed : Ct := fun rs Q _ => ∃ js y, rs = [.d (tupI js), .d y] ∧ headOk y ∧ Q (.d (.bool (deedOk js.length y)))
theorem l_is_deed : ∀ rs Q X, C_is_deed rs Q X → rs.length = 2 := by
  rintro rs Q X ⟨x, y, rfl, _⟩
  rfl
theorem within_int {y : PyData} {lo hi : Int} (h : within y lo hi = true) : ∃ i : Int, y = .int i ∧ lo ≤ i ∧ i ≤ hi := by
  cases y <;> simp_all [within]
theorem p_is_deed : ∀ rs Q X, C_is_deed rs Q X → w_is_deed ⟨fun _ => Q (.d .none), Q, fun _ => False, fun _ => False⟩ (startR N_is_deed rs) X := by
  rintro rs Q X ⟨js, y, rfl, hk, h⟩
  (try simp only [sumDD, eqS, reprD, wV, wC, wNil, wCons, wTup, wLst, wOp, wUn, wCall, wT, wNot, wAnd, wOr, wB, wAndV, wOrV, wNotV, wIf, wIsi, wChain, wNo, wPart, wSl, wSet, wSetO, wTg, wPnil, wPcons, wPar, wNext, wSeq, wRet, wRetO, wRetN, wIfS, wBrk, wCnt, wDrop, wFrz, wApp, wExt, wSetIx, wAugIx, wAug, wRnil, wRcons, wFn, wRaise, wWord, wRetH, wSetIxH, wCount, wIndex, wIsE, wListRg1, wListRg2, wYes, wIs, wIz, wIl, wIt, wIr1, wIr2, wSlS, wPop, wAppPop, R.wk, R.st, R.ar, R.bl, R.no, R.sq, R.slot, setsR, startR, List.map_cons, List.map_nil, List.cons_append, List.nil_append, List.length_cons, List.length_nil, List.replicate, List.getElem?_cons_zero, List.getElem?_cons_succ, Option.some.injEq, exists_eq_left', exists_eq_left, R.d.injEq, R.own.injEq, R.fr.injEq, List.set_cons_zero, List.set_cons_succ, addD, subD, mulDD, fdivD, modD, ltD, leD, gtD, geD, eqD, neD, isND, isnotND, inDD, notInDD, ixD, negD, lenD, absD, intD, min2D, max2D, listD, tupleD, slD, Nat.reduceAdd, Nat.reduceSub, Nat.add_zero, Nat.zero_add, true_and, and_true, ite_true, ite_false, if_true, if_false, Bool.false_eq_true, reduceIte, Option.some_inj, Bool.true_eq_false, tgW, tgWs, wipe3, List.set_nil, w_is_deed, C_is_sized])
  refine ⟨y, 2, 3, rfl, ?_⟩
  cases y with
  | tuple xs =>
    have fin : ∀ (a : PyData) (r : List PyData) (b : Bool), r.all (fun y => within y 0 ((js.length : Int) - 1)) = b → ∃ bs : List Bool, r.map (fun y => PyData.bool (within y 0 ((js.length : Int) - 1))) = bs.map PyData.bool ∧ bs.all id = b := fun a r b e =>
      ⟨r.map fun y => within y 0 ((js.length : Int) - 1), by rw [List.map_map]; rfl, by rw [List.all_map, ← e]; rfl⟩
    match xs, hk, h with
    | [], _, h => simpa [sized, deedOk, R.no] using h
    | [a], _, h => simpa [sized, deedOk, R.no] using h
    | a :: b :: c :: d :: r, _, h =>
      have e : sized (.tuple (a :: b :: c :: d :: r)) 2 3 = false := by
        simp [sized]
        omega
      rw [e]
      simpa [deedOk, R.no] using h
    | [.str k, b], hk, h =>
      have sk := hk k _ rfl
      have e : sized (.tuple [.str k, b]) 2 3 = true := by simp [sized]
      rw [e]
      (try simp only [sumDD, eqS, reprD, wV, wC, wNil, wCons, wTup, wLst, wOp, wUn, wCall, wT, wNot, wAnd, wOr, wB, wAndV, wOrV, wNotV, wIf, wIsi, wChain, wNo, wPart, wSl, wSet, wSetO, wTg, wPnil, wPcons, wPar, wNext, wSeq, wRet, wRetO, wRetN, wIfS, wBrk, wCnt, wDrop, wFrz, wApp, wExt, wSetIx, wAugIx, wAug, wRnil, wRcons, wFn, wRaise, wWord, wRetH, wSetIxH, wCount, wIndex, wIsE, wListRg1, wListRg2, wYes, wIs, wIz, wIl, wIt, wIr1, wIr2, wSlS, wPop, wAppPop, R.wk, R.st, R.ar, R.bl, R.no, R.sq, R.slot, setsR, startR, List.map_cons, List.map_nil, List.cons_append, List.nil_append, List.length_cons, List.length_nil, List.replicate, List.getElem?_cons_zero, List.getElem?_cons_succ, Option.some.injEq, exists_eq_left', exists_eq_left, R.d.injEq, R.own.injEq, R.fr.injEq, List.set_cons_zero, List.set_cons_succ, addD, subD, mulDD, fdivD, modD, ltD, leD, gtD, geD, eqD, neD, isND, isnotND, inDD, notInDD, ixD, negD, lenD, absD, intD, min2D, max2D, listD, tupleD, slD, Nat.reduceAdd, Nat.reduceSub, Nat.add_zero, Nat.zero_add, true_and, and_true, ite_true, ite_false, if_true, if_false, Bool.false_eq_true, reduceIte, Option.some_inj, Bool.true_eq_false, tgW, tgWs, wipe3, List.set_nil, at0, isStr, wLc, Bool.not_true, Bool.not_false, cut1])
      refine lc_map (fun y => .bool (within y 0 ((js.length : Int) - 1))) [b] (fun y hy k2 hk2 => ?_) ?_
      · (try simp only [sumDD, eqS, reprD, wV, wC, wNil, wCons, wTup, wLst, wOp, wUn, wCall, wT, wNot, wAnd, wOr, wB, wAndV, wOrV, wNotV, wIf, wIsi, wChain, wNo, wPart, wSl, wSet, wSetO, wTg, wPnil, wPcons, wPar, wNext, wSeq, wRet, wRetO, wRetN, wIfS, wBrk, wCnt, wDrop, wFrz, wApp, wExt, wSetIx, wAugIx, wAug, wRnil, wRcons, wFn, wRaise, wWord, wRetH, wSetIxH, wCount, wIndex, wIsE, wListRg1, wListRg2, wYes, wIs, wIz, wIl, wIt, wIr1, wIr2, wSlS, wPop, wAppPop, R.wk, R.st, R.ar, R.bl, R.no, R.sq, R.slot, setsR, startR, List.map_cons, List.map_nil, List.cons_append, List.nil_append, List.length_cons, List.length_nil, List.replicate, List.getElem?_cons_zero, List.getElem?_cons_succ, Option.some.injEq, exists_eq_left', exists_eq_left, R.d.injEq, R.own.injEq, R.fr.injEq, List.set_cons_zero, List.set_cons_succ, addD, subD, mulDD, fdivD, modD, ltD, leD, gtD, geD, eqD, neD, isND, isnotND, inDD, notInDD, ixD, negD, lenD, absD, intD, min2D, max2D, listD, tupleD, slD, Nat.reduceAdd, Nat.reduceSub, Nat.add_zero, Nat.zero_add, true_and, and_true, ite_true, ite_false, if_true, if_false, Bool.false_eq_true, reduceIte, Option.some_inj, Bool.true_eq_false, tgW, tgWs, wipe3, List.set_nil, C_is_within, List.length_map])
        exact ⟨y, 0, _, rfl, hk2⟩
      (try simp only [sumDD, eqS, reprD, wV, wC, wNil, wCons, wTup, wLst, wOp, wUn, wCall, wT, wNot, wAnd, wOr, wB, wAndV, wOrV, wNotV, wIf, wIsi, wChain, wNo, wPart, wSl, wSet, wSetO, wTg, wPnil, wPcons, wPar, wNext, wSeq, wRet, wRetO, wRetN, wIfS, wBrk, wCnt, wDrop, wFrz, wApp, wExt, wSetIx, wAugIx, wAug, wRnil, wRcons, wFn, wRaise, wWord, wRetH, wSetIxH, wCount, wIndex, wIsE, wListRg1, wListRg2, wYes, wIs, wIz, wIl, wIt, wIr1, wIr2, wSlS, wPop, wAppPop, R.wk, R.st, R.ar, R.bl, R.no, R.sq, R.slot, setsR, startR, List.map_cons, List.map_nil, List.cons_append, List.nil_append, List.length_cons, List.length_nil, List.replicate, List.getElem?_cons_zero, List.getElem?_cons_succ, Option.some.injEq, exists_eq_left', exists_eq_left, R.d.injEq, R.own.injEq, R.fr.injEq, List.set_cons_zero, List.set_cons_succ, addD, subD, mulDD, fdivD, modD, ltD, leD, gtD, geD, eqD, neD, isND, isnotND, inDD, notInDD, ixD, negD, lenD, absD, intD, min2D, max2D, listD, tupleD, slD, Nat.reduceAdd, Nat.reduceSub, Nat.add_zero, Nat.zero_add, true_and, and_true, ite_true, ite_false, if_true, if_false, Bool.false_eq_true, reduceIte, Option.some_inj, Bool.true_eq_false, tgW, tgWs, wipe3, List.set_nil, allD])
      refine (fin (.str k) [b] _ rfl).imp fun bs hb => ⟨hb.1, ?_⟩
      rw [hb.2]
      (try simp only [sumDD, eqS, reprD, wV, wC, wNil, wCons, wTup, wLst, wOp, wUn, wCall, wT, wNot, wAnd, wOr, wB, wAndV, wOrV, wNotV, wIf, wIsi, wChain, wNo, wPart, wSl, wSet, wSetO, wTg, wPnil, wPcons, wPar, wNext, wSeq, wRet, wRetO, wRetN, wIfS, wBrk, wCnt, wDrop, wFrz, wApp, wExt, wSetIx, wAugIx, wAug, wRnil, wRcons, wFn, wRaise, wWord, wRetH, wSetIxH, wCount, wIndex, wIsE, wListRg1, wListRg2, wYes, wIs, wIz, wIl, wIt, wIr1, wIr2, wSlS, wPop, wAppPop, R.wk, R.st, R.ar, R.bl, R.no, R.sq, R.slot, setsR, startR, List.map_cons, List.map_nil, List.cons_append, List.nil_append, List.length_cons, List.length_nil, List.replicate, List.getElem?_cons_zero, List.getElem?_cons_succ, Option.some.injEq, exists_eq_left', exists_eq_left, R.d.injEq, R.own.injEq, R.fr.injEq, List.set_cons_zero, List.set_cons_succ, addD, subD, mulDD, fdivD, modD, ltD, leD, gtD, geD, eqD, neD, isND, isnotND, inDD, notInDD, ixD, negD, lenD, absD, intD, min2D, max2D, listD, tupleD, slD, Nat.reduceAdd, Nat.reduceSub, Nat.add_zero, Nat.zero_add, true_and, and_true, ite_true, ite_false, if_true, if_false, Bool.false_eq_true, reduceIte, Option.some_inj, Bool.true_eq_false, tgW, tgWs, wipe3, List.set_nil, List.all_cons, List.all_nil, Bool.and_true, eqv_ss, eqv_ii, sk, sh_i, at0, at1, List.any_cons, List.any_nil, Bool.or_false])
      cases hw : within b 0 ((js.length : Int) - 1) with
      | false => simpa [deedOk, hw] using h
      | true =>
        simp only [Bool.not_true, Bool.false_eq_true, if_false]
        refine ⟨by decide +kernel, ?_⟩
        by_cases k1 : k = "pour"
        · subst k1
          simp only [decide_true, if_true]
          have z1 : decide (("pour" : Str) = "fill") = false := by decide +kernel
          have z2 : decide (("pour" : Str) = "empty") = false := by decide +kernel
          simpa [deedOk, hw, z1, z2] using h
        · simp only [k1, decide_false, Bool.false_eq_true, if_false]
          refine ⟨by decide +kernel, ?_⟩
          simp only [deedOk, hw, Bool.true_and] at h
          have e1 : ∀ z : Str, decide (z = k) = decide (k = z) := fun z => by
            by_cases c : k = z
            · subst c
              rfl
            · rw [decide_eq_false c, decide_eq_false (fun q => c q.symm)]
          rw [e1, e1]
          cases hq : (decide (k = "fill") || decide (k = "empty")) with
          | false => rw [hq] at h; simpa using h
          | true => rw [hq] at h; simpa using h
    | [.str k, b, c], hk, h =>
      have sk := hk k _ rfl
      have e : sized (.tuple [.str k, b, c]) 2 3 = true := by simp [sized]
      rw [e]
      (try simp only [sumDD, eqS, reprD, wV, wC, wNil, wCons, wTup, wLst, wOp, wUn, wCall, wT, wNot, wAnd, wOr, wB, wAndV, wOrV, wNotV, wIf, wIsi, wChain, wNo, wPart, wSl, wSet, wSetO, wTg, wPnil, wPcons, wPar, wNext, wSeq, wRet, wRetO, wRetN, wIfS, wBrk, wCnt, wDrop, wFrz, wApp, wExt, wSetIx, wAugIx, wAug, wRnil, wRcons, wFn, wRaise, wWord, wRetH, wSetIxH, wCount, wIndex, wIsE, wListRg1, wListRg2, wYes, wIs, wIz, wIl, wIt, wIr1, wIr2, wSlS, wPop, wAppPop, R.wk, R.st, R.ar, R.bl, R.no, R.sq, R.slot, setsR, startR, List.map_cons, List.map_nil, List.cons_append, List.nil_append, List.length_cons, List.length_nil, List.replicate, List.getElem?_cons_zero, List.getElem?_cons_succ, Option.some.injEq, exists_eq_left', exists_eq_left, R.d.injEq, R.own.injEq, R.fr.injEq, List.set_cons_zero, List.set_cons_succ, addD, subD, mulDD, fdivD, modD, ltD, leD, gtD, geD, eqD, neD, isND, isnotND, inDD, notInDD, ixD, negD, lenD, absD, intD, min2D, max2D, listD, tupleD, slD, Nat.reduceAdd, Nat.reduceSub, Nat.add_zero, Nat.zero_add, true_and, and_true, ite_true, ite_false, if_true, if_false, Bool.false_eq_true, reduceIte, Option.some_inj, Bool.true_eq_false, tgW, tgWs, wipe3, List.set_nil, at0, isStr, wLc, Bool.not_true, Bool.not_false, cut1])
      refine lc_map (fun y => .bool (within y 0 ((js.length : Int) - 1))) [b, c] (fun y hy k2 hk2 => ?_) ?_
      · (try simp only [sumDD, eqS, reprD, wV, wC, wNil, wCons, wTup, wLst, wOp, wUn, wCall, wT, wNot, wAnd, wOr, wB, wAndV, wOrV, wNotV, wIf, wIsi, wChain, wNo, wPart, wSl, wSet, wSetO, wTg, wPnil, wPcons, wPar, wNext, wSeq, wRet, wRetO, wRetN, wIfS, wBrk, wCnt, wDrop, wFrz, wApp, wExt, wSetIx, wAugIx, wAug, wRnil, wRcons, wFn, wRaise, wWord, wRetH, wSetIxH, wCount, wIndex, wIsE, wListRg1, wListRg2, wYes, wIs, wIz, wIl, wIt, wIr1, wIr2, wSlS, wPop, wAppPop, R.wk, R.st, R.ar, R.bl, R.no, R.sq, R.slot, setsR, startR, List.map_cons, List.map_nil, List.cons_append, List.nil_append, List.length_cons, List.length_nil, List.replicate, List.getElem?_cons_zero, List.getElem?_cons_succ, Option.some.injEq, exists_eq_left', exists_eq_left, R.d.injEq, R.own.injEq, R.fr.injEq, List.set_cons_zero, List.set_cons_succ, addD, subD, mulDD, fdivD, modD, ltD, leD, gtD, geD, eqD, neD, isND, isnotND, inDD, notInDD, ixD, negD, lenD, absD, intD, min2D, max2D, listD, tupleD, slD, Nat.reduceAdd, Nat.reduceSub, Nat.add_zero, Nat.zero_add, true_and, and_true, ite_true, ite_false, if_true, if_false, Bool.false_eq_true, reduceIte, Option.some_inj, Bool.true_eq_false, tgW, tgWs, wipe3, List.set_nil, C_is_within, List.length_map])
        exact ⟨y, 0, _, rfl, hk2⟩
      (try simp only [sumDD, eqS, reprD, wV, wC, wNil, wCons, wTup, wLst, wOp, wUn, wCall, wT, wNot, wAnd, wOr, wB, wAndV, wOrV, wNotV, wIf, wIsi, wChain, wNo, wPart, wSl, wSet, wSetO, wTg, wPnil, wPcons, wPar, wNext, wSeq, wRet, wRetO, wRetN, wIfS, wBrk, wCnt, wDrop, wFrz, wApp, wExt, wSetIx, wAugIx, wAug, wRnil, wRcons, wFn, wRaise, wWord, wRetH, wSetIxH, wCount, wIndex, wIsE, wListRg1, wListRg2, wYes, wIs, wIz, wIl, wIt, wIr1, wIr2, wSlS, wPop, wAppPop, R.wk, R.st, R.ar, R.bl, R.no, R.sq, R.slot, setsR, startR, List.map_cons, List.map_nil, List.cons_append, List.nil_append, List.length_cons, List.length_nil, List.replicate, List.getElem?_cons_zero, List.getElem?_cons_succ, Option.some.injEq, exists_eq_left', exists_eq_left, R.d.injEq, R.own.injEq, R.fr.injEq, List.set_cons_zero, List.set_cons_succ, addD, subD, mulDD, fdivD, modD, ltD, leD, gtD, geD, eqD, neD, isND, isnotND, inDD, notInDD, ixD, negD, lenD, absD, intD, min2D, max2D, listD, tupleD, slD, Nat.reduceAdd, Nat.reduceSub, Nat.add_zero, Nat.zero_add, true_and, and_true, ite_true, ite_false, if_true, if_false, Bool.false_eq_true, reduceIte, Option.some_inj, Bool.true_eq_false, tgW, tgWs, wipe3, List.set_nil, allD])
      refine (fin (.str k) [b, c] _ rfl).imp fun bs hb => ⟨hb.1, ?_⟩
      rw [hb.2]
      (try simp only [sumDD, eqS, reprD, wV, wC, wNil, wCons, wTup, wLst, wOp, wUn, wCall, wT, wNot, wAnd, wOr, wB, wAndV, wOrV, wNotV, wIf, wIsi, wChain, wNo, wPart, wSl, wSet, wSetO, wTg, wPnil, wPcons, wPar, wNext, wSeq, wRet, wRetO, wRetN, wIfS, wBrk, wCnt, wDrop, wFrz, wApp, wExt, wSetIx, wAugIx, wAug, wRnil, wRcons, wFn, wRaise, wWord, wRetH, wSetIxH, wCount, wIndex, wIsE, wListRg1, wListRg2, wYes, wIs, wIz, wIl, wIt, wIr1, wIr2, wSlS, wPop, wAppPop, R.wk, R.st, R.ar, R.bl, R.no, R.sq, R.slot, setsR, startR, List.map_cons, List.map_nil, List.cons_append, List.nil_append, List.length_cons, List.length_nil, List.replicate, List.getElem?_cons_zero, List.getElem?_cons_succ, Option.some.injEq, exists_eq_left', exists_eq_left, R.d.injEq, R.own.injEq, R.fr.injEq, List.set_cons_zero, List.set_cons_succ, addD, subD, mulDD, fdivD, modD, ltD, leD, gtD, geD, eqD, neD, isND, isnotND, inDD, notInDD, ixD, negD, lenD, absD, intD, min2D, max2D, listD, tupleD, slD, Nat.reduceAdd, Nat.reduceSub, Nat.add_zero, Nat.zero_add, true_and, and_true, ite_true, ite_false, if_true, if_false, Bool.false_eq_true, reduceIte, Option.some_inj, Bool.true_eq_false, tgW, tgWs, wipe3, List.set_nil, List.all_cons, List.all_nil, Bool.and_true, eqv_ss, eqv_ii, sk, sh_i, at0, at1, at2, List.any_cons, List.any_nil, Bool.or_false])
      cases hw : (within b 0 ((js.length : Int) - 1) && within c 0 ((js.length : Int) - 1)) with
      | false =>
        have e : deedOk js.length (.tuple [.str k, b, c]) = false := by
          cases b <;> cases c <;> simp [deedOk, within] at hw ⊢
          intro h1 h2 h3 h4
          have := hw h1 h2 h3
          omega
        rw [e] at h
        simpa using h
      | true =>
        simp only [Bool.not_true, Bool.false_eq_true, if_false]
        rw [Bool.and_eq_true] at hw
        obtain ⟨i, rfl, _⟩ := within_int hw.1
        obtain ⟨j, rfl, _⟩ := within_int hw.2
        refine ⟨by decide +kernel, ?_⟩
        by_cases k1 : k = "pour"
        · subst k1
          simp only [decide_true, if_true]
          simpa [deedOk, hw, eqv_ii, sh_i] using h
        · simp only [k1, decide_false, Bool.false_eq_true, if_false]
          refine ⟨by decide +kernel, ?_⟩
          simp only [deedOk, hw, Bool.true_and, k1, decide_false, Bool.false_and] at h
          split
          · simpa using h
          · exact h
    | [.none, b], _, h | [.bool _, b], _, h | [.int _, b], _, h | [.list _, b], _, h | [.tuple _, b], _, h | [.dict _, b], _, h =>
      simpa [sized, deedOk, R.no, at0, isStr] using h
    | [.none, b, c], _, h | [.bool _, b, c], _, h | [.int _, b, c], _, h | [.list _, b, c], _, h | [.tuple _, b, c], _, h | [.dict _, b, c], _, h =>
      simpa [sized, deedOk, R.no, at0, isStr] using h
  | _ => simpa [sized, deedOk, R.no] using h
theorem ok_is_deed (D : Txt K mg base T) : Cal false P w K mg base T 3 "is_deed" C_is_deed :=
  cal_of (wb := w_is_deed) D.d_is_deed sc_is_deed bi_is_deed l_is_deed (fun f cdv A outer s H E hp hr hgd => ess_cons (es_if (PW.pt (ew_or (et_not (et_val (ev_fnC (ok_is_sized D) hr (by decide) (fun h => by cases h) rfl pass_cx (er_cons (ev_var (pv 1)) (er_cons (ev_int) (er_cons (ev_int) (er_nil))))))) (ew_or1 (et_not (et_val (ev_isi kit_str rfl D.n_isinstance bb_isinstance (ev_ix ix_D (ev_var (pv 1)) (ev_int) (fun _ _ => rfl)) (pe_bltn rfl D.n_str bb_str rfl))))))) (ess_one (es_ret (ev_bl))) (ess_nil)) (ess_cons (es_if (et_not (et_val (ev_callB (cr_allD rfl) rfl D.n_all bb_all (el_cons selW (ev_lc (own := [("one", 2)]) (g := .one 2) rfl sc_is_deed.nd (ei_seq (ev_sl (ev_var (pv 1)) (eo_part (ev_int)) eo_no)) (blkOk_by (N := N_is_deed) (sc := defScope s_is_deed) (by decide +kernel)) (by decide) (fun _ _ _ _ _ => pg_name (i := 2) sc_is_deed.nd rfl (Or.inl rfl)) (fun _ _ _ _ _ => eb_yes) (fun _ _ _ _ _ => ev_fnC (ok_is_within D) hr (by decide) (fun h => by cases h) rfl passL (er_cons (ev_var (pv 2)) (er_cons (ev_int) (er_cons (ev_op op_subD (ev_callB cr_len rfl D.n_len bb_len (el_cons selW (ev_var (pv 0)) (el_nil))) (ev_int)) (er_nil)))))) (el_nil))))) (ess_one (es_ret (ev_bl))) (ess_nil)) (ess_cons (es_if (et_cmp (op_eqT (u64 hr)) (ev_ix ix_D (ev_var (pv 1)) (ev_int) (fun _ _ => rfl)) (ev_gs rfl D.c_POUR) (nomark _)) (ess_one (es_ret (ev_and (ev_cmp (op_eqT (u64 hr)) (ev_callB cr_len rfl D.n_len bb_len (el_cons selW (ev_var (pv 1)) (el_nil))) (ev_int) (nomark _)) (ev_one (ev_cmp (op_neT (u64 hr)) (ev_ix ix_D (ev_var (pv 1)) (ev_int) (fun _ _ => rfl)) (ev_ix ix_D (ev_var (pv 1)) (ev_int) (fun _ _ => rfl)) (nomark _)))))) (ess_nil)) (ess_one (es_ret (ev_and (ev_cmp (op_inDD (u65 hr)) (ev_ix ix_D (ev_var (pv 1)) (ev_int) (fun _ _ => rfl)) (ev_tup (el_cons selS (ev_gs rfl D.c_FILL) (el_cons selS (ev_gs rfl D.c_EMPTY) (el_nil)))) (by rfl)) (ev_one (ev_cmp (op_eqT (u64 hr)) (ev_callB cr_len rfl D.n_len bb_len (el_cons selW (ev_var (pv 1)) (el_nil))) (ev_int) (nomark _))))))))) p_is_deed
/-! ### raw_behind -/
abbrev N_raw_behind : List Str := ["jugs", "filling", "deed", "found", "much"]
theorem sc_raw_behind : FnScope N_raw_behind ["jugs", "filling", "deed"] (defScope s_raw_behind) := ⟨rfl, rfl, rfl, by decide +kernel, rfl, by decide +kernel, by decide +kernel⟩
theorem bi_raw_behind : BindsBy "raw_behind" s_raw_behind ["jugs", "filling", "deed"] := fun _ _ _ _ _ _ us hl => match us, hl with | [_, _, _], _ => rfl
def w_raw_behind : WS := wSeq (wSetO 3 (wCall listD (wCons R.wk (wV 1) (wNil)))) (wSeq (wIfS (wT (wOp eqD (wOp ixD (wV 2) (wC (.int 0))) (wC (.str "fill")))) (wSetIx 3 (wOp ixD (wV 2) (wC (.int 1))) (wOp ixD (wV 0) (wOp ixD (wV 2) (wC (.int 1))))) (wIfS (wT (wOp eqD (wOp ixD (wV 2) (wC (.int 0))) (wC (.str "empty")))) (wSetIx 3 (wOp ixD (wV 2) (wC (.int 1))) (wC (.int 0))) (wSeq (wSet 4 (wCall min2D (wCons R.wk (wOp ixD (wV 3) (wOp ixD (wV 2) (wC (.int 1)))) (wCons R.wk (wOp subD (wOp ixD (wV 0) (wOp ixD (wV 2) (wC (.int 2)))) (wOp ixD (wV 3) (wOp ixD (wV 2) (wC (.int 2))))) (wNil))))) (wSeq (wAugIx (· - ·) 3 (wOp ixD (wV 2) (wC (.int 1))) (wV 4)) (wAugIx (· + ·) 3 (wOp ixD (wV 2) (wC (.int 2))) (wV 4)))))) (wRet (wCall tupleD (wCons R.wk (wV 3) (wNil)))))
def behindF (js fs : List Int) : Deed → List Int
  | .fill i => fs.set i (js.getD i 0)
  | .empty i => fs.set i 0
  | .pour i j =>
    let much := if js.getD j 0 - fs.getD j 0 < fs.getD i 0 then js.getD j 0 - fs.getD j 0 else fs.getD i 0
    (fs.set i (fs.getD i 0 - much)).set j (fs.getD j 0 + much)
theorem behindF_len (js fs : List Int) (d : Deed) : (behindF js fs d).length = fs.length := by
  cases d <;> simp [behindF]
theorem at_map {ns : List Int} {i : Nat} (h : i < ns.length) : atI (ns.map PyData.int) (i : Int) = some (.int (ns.getD i 0)) := by
  rw [at_nat (by rw [List.length_map]; exact h)]
  simp [List.getD_eq_getElem?_getD, List.getElem?_eq_getElem h]
theorem set_map {ns : List Int} (i : Nat) (v : Int) : (ns.map PyData.int).set i (.int v) = (ns.set i v).map .int := by rw [List.map_set]
theorem sh_fill : SeqAt.shaped (.str "fill") = true := by decide +kernel
theorem sh_empty : SeqAt.shaped (.str "empty") = true := by decide +kernel
theorem sh_pour : SeqAt.shaped (.str "pour") = true := by decide +kernel
theorem ne1 : decide (("empty" : Str) = "fill") = false := by decide +kernel
theorem ne2 : decide (("pour" : Str) = "fill") = false := by decide +kernel
theorem ne3 : decide (("pour" : Str) = "empty") = false := by decide +kernel
theorem ne4 : decide (("empty" : Str) = "pour") = false := by decide +kernel
theorem ne5 : decide (("fill" : Str) = "pour") = false := by decide +kernel
theorem ne6 : decide (("fill" : Str) = "empty") = false := by decide +kernel
def C_raw_behind : Ct := fun rs Q _ => ∃ js fs d, rs = [.d (tupI js), .d (tupI fs), .d (Deed.toD d)] ∧ fs.length = js.length ∧ d.ok js.length = true ∧ Q (.d (tupI (behindF js fs d)))
theorem l_raw_behind : ∀ rs Q X, C_raw_behind rs Q X → rs.length = 3 := by
  rintro rs Q X ⟨_, _, _, rfl, _⟩
  rfl
theorem p_raw_behind : ∀ rs Q X, C_raw_behind rs Q X → w_raw_behind ⟨fun _ => Q (.d .none), Q, fun _ => False, fun _ => False⟩ (startR N_raw_behind rs) X := by
  rintro rs Q X ⟨js, fs, d, rfl, hl, hd, h⟩
  cases d with
  | fill i =>
    have hi : i < js.length := by simpa [Deed.ok] using hd
    (try simp only [sumDD, eqS, reprD, wV, wC, wNil, wCons, wTup, wLst, wOp, wUn, wCall, wT, wNot, wAnd, wOr, wB, wAndV, wOrV, wNotV, wIf, wIsi, wChain, wNo, wPart, wSl, wSet, wSetO, wTg, wPnil, wPcons, wPar, wNext, wSeq, wRet, wRetO, wRetN, wIfS, wBrk, wCnt, wDrop, wFrz, wApp, wExt, wSetIx, wAugIx, wAug, wRnil, wRcons, wFn, wRaise, wWord, wRetH, wSetIxH, wCount, wIndex, wIsE, wListRg1, wListRg2, wYes, wIs, wIz, wIl, wIt, wIr1, wIr2, wSlS, wPop, wAppPop, R.wk, R.st, R.ar, R.bl, R.no, R.sq, R.slot, setsR, startR, List.map_cons, List.map_nil, List.cons_append, List.nil_append, List.length_cons, List.length_nil, List.replicate, List.getElem?_cons_zero, List.getElem?_cons_succ, Option.some.injEq, exists_eq_left', exists_eq_left, R.d.injEq, R.own.injEq, R.fr.injEq, List.set_cons_zero, List.set_cons_succ, addD, subD, mulDD, fdivD, modD, ltD, leD, gtD, geD, eqD, neD, isND, isnotND, inDD, notInDD, ixD, negD, lenD, absD, intD, min2D, max2D, listD, tupleD, slD, Nat.reduceAdd, Nat.reduceSub, Nat.add_zero, Nat.zero_add, true_and, and_true, ite_true, ite_false, if_true, if_false, Bool.false_eq_true, reduceIte, Option.some_inj, Bool.true_eq_false, tgW, tgWs, wipe3, List.set_nil, w_raw_behind, tupI, Deed.toD, at0, at1, at_map, eqv_ss, sh_fill, decide_true, hi])
    refine ⟨i, ixN_nat (by rw [List.length_map]; omega), ?_⟩
    (try simp only [sumDD, eqS, reprD, wV, wC, wNil, wCons, wTup, wLst, wOp, wUn, wCall, wT, wNot, wAnd, wOr, wB, wAndV, wOrV, wNotV, wIf, wIsi, wChain, wNo, wPart, wSl, wSet, wSetO, wTg, wPnil, wPcons, wPar, wNext, wSeq, wRet, wRetO, wRetN, wIfS, wBrk, wCnt, wDrop, wFrz, wApp, wExt, wSetIx, wAugIx, wAug, wRnil, wRcons, wFn, wRaise, wWord, wRetH, wSetIxH, wCount, wIndex, wIsE, wListRg1, wListRg2, wYes, wIs, wIz, wIl, wIt, wIr1, wIr2, wSlS, wPop, wAppPop, R.wk, R.st, R.ar, R.bl, R.no, R.sq, R.slot, setsR, startR, List.map_cons, List.map_nil, List.cons_append, List.nil_append, List.length_cons, List.length_nil, List.replicate, List.getElem?_cons_zero, List.getElem?_cons_succ, Option.some.injEq, exists_eq_left', exists_eq_left, R.d.injEq, R.own.injEq, R.fr.injEq, List.set_cons_zero, List.set_cons_succ, addD, subD, mulDD, fdivD, modD, ltD, leD, gtD, geD, eqD, neD, isND, isnotND, inDD, notInDD, ixD, negD, lenD, absD, intD, min2D, max2D, listD, tupleD, slD, Nat.reduceAdd, Nat.reduceSub, Nat.add_zero, Nat.zero_add, true_and, and_true, ite_true, ite_false, if_true, if_false, Bool.false_eq_true, reduceIte, Option.some_inj, Bool.true_eq_false, tgW, tgWs, wipe3, List.set_nil, set_map])
    exact h
  | empty i =>
    have hi : i < js.length := by simpa [Deed.ok] using hd
    (try simp only [sumDD, eqS, reprD, wV, wC, wNil, wCons, wTup, wLst, wOp, wUn, wCall, wT, wNot, wAnd, wOr, wB, wAndV, wOrV, wNotV, wIf, wIsi, wChain, wNo, wPart, wSl, wSet, wSetO, wTg, wPnil, wPcons, wPar, wNext, wSeq, wRet, wRetO, wRetN, wIfS, wBrk, wCnt, wDrop, wFrz, wApp, wExt, wSetIx, wAugIx, wAug, wRnil, wRcons, wFn, wRaise, wWord, wRetH, wSetIxH, wCount, wIndex, wIsE, wListRg1, wListRg2, wYes, wIs, wIz, wIl, wIt, wIr1, wIr2, wSlS, wPop, wAppPop, R.wk, R.st, R.ar, R.bl, R.no, R.sq, R.slot, setsR, startR, List.map_cons, List.map_nil, List.cons_append, List.nil_append, List.length_cons, List.length_nil, List.replicate, List.getElem?_cons_zero, List.getElem?_cons_succ, Option.some.injEq, exists_eq_left', exists_eq_left, R.d.injEq, R.own.injEq, R.fr.injEq, List.set_cons_zero, List.set_cons_succ, addD, subD, mulDD, fdivD, modD, ltD, leD, gtD, geD, eqD, neD, isND, isnotND, inDD, notInDD, ixD, negD, lenD, absD, intD, min2D, max2D, listD, tupleD, slD, Nat.reduceAdd, Nat.reduceSub, Nat.add_zero, Nat.zero_add, true_and, and_true, ite_true, ite_false, if_true, if_false, Bool.false_eq_true, reduceIte, Option.some_inj, Bool.true_eq_false, tgW, tgWs, wipe3, List.set_nil, w_raw_behind, tupI, Deed.toD, at0, at1, at_map, eqv_ss, sh_fill, sh_empty, ne1, decide_true, hi])
    refine ⟨i, ixN_nat (by rw [List.length_map]; omega), ?_⟩
    (try simp only [sumDD, eqS, reprD, wV, wC, wNil, wCons, wTup, wLst, wOp, wUn, wCall, wT, wNot, wAnd, wOr, wB, wAndV, wOrV, wNotV, wIf, wIsi, wChain, wNo, wPart, wSl, wSet, wSetO, wTg, wPnil, wPcons, wPar, wNext, wSeq, wRet, wRetO, wRetN, wIfS, wBrk, wCnt, wDrop, wFrz, wApp, wExt, wSetIx, wAugIx, wAug, wRnil, wRcons, wFn, wRaise, wWord, wRetH, wSetIxH, wCount, wIndex, wIsE, wListRg1, wListRg2, wYes, wIs, wIz, wIl, wIt, wIr1, wIr2, wSlS, wPop, wAppPop, R.wk, R.st, R.ar, R.bl, R.no, R.sq, R.slot, setsR, startR, List.map_cons, List.map_nil, List.cons_append, List.nil_append, List.length_cons, List.length_nil, List.replicate, List.getElem?_cons_zero, List.getElem?_cons_succ, Option.some.injEq, exists_eq_left', exists_eq_left, R.d.injEq, R.own.injEq, R.fr.injEq, List.set_cons_zero, List.set_cons_succ, addD, subD, mulDD, fdivD, modD, ltD, leD, gtD, geD, eqD, neD, isND, isnotND, inDD, notInDD, ixD, negD, lenD, absD, intD, min2D, max2D, listD, tupleD, slD, Nat.reduceAdd, Nat.reduceSub, Nat.add_zero, Nat.zero_add, true_and, and_true, ite_true, ite_false, if_true, if_false, Bool.false_eq_true, reduceIte, Option.some_inj, Bool.true_eq_false, tgW, tgWs, wipe3, List.set_nil, set_map])
    exact h
  | pour i j =>
    simp only [Deed.ok, Bool.and_eq_true, decide_eq_true_eq] at hd
    obtain ⟨⟨hi, hj⟩, hij⟩ := hd
    have hi2 : i < fs.length := by omega
    have hj2 : j < fs.length := by omega
    (try simp only [sumDD, eqS, reprD, wV, wC, wNil, wCons, wTup, wLst, wOp, wUn, wCall, wT, wNot, wAnd, wOr, wB, wAndV, wOrV, wNotV, wIf, wIsi, wChain, wNo, wPart, wSl, wSet, wSetO, wTg, wPnil, wPcons, wPar, wNext, wSeq, wRet, wRetO, wRetN, wIfS, wBrk, wCnt, wDrop, wFrz, wApp, wExt, wSetIx, wAugIx, wAug, wRnil, wRcons, wFn, wRaise, wWord, wRetH, wSetIxH, wCount, wIndex, wIsE, wListRg1, wListRg2, wYes, wIs, wIz, wIl, wIt, wIr1, wIr2, wSlS, wPop, wAppPop, R.wk, R.st, R.ar, R.bl, R.no, R.sq, R.slot, setsR, startR, List.map_cons, List.map_nil, List.cons_append, List.nil_append, List.length_cons, List.length_nil, List.replicate, List.getElem?_cons_zero, List.getElem?_cons_succ, Option.some.injEq, exists_eq_left', exists_eq_left, R.d.injEq, R.own.injEq, R.fr.injEq, List.set_cons_zero, List.set_cons_succ, addD, subD, mulDD, fdivD, modD, ltD, leD, gtD, geD, eqD, neD, isND, isnotND, inDD, notInDD, ixD, negD, lenD, absD, intD, min2D, max2D, listD, tupleD, slD, Nat.reduceAdd, Nat.reduceSub, Nat.add_zero, Nat.zero_add, true_and, and_true, ite_true, ite_false, if_true, if_false, Bool.false_eq_true, reduceIte, Option.some_inj, Bool.true_eq_false, tgW, tgWs, wipe3, List.set_nil, w_raw_behind, tupI, Deed.toD, at0, at1, at2, at_map, eqv_ss, sh_fill, sh_empty, sh_pour, ne2, ne3, decide_true, hi, hj, hi2, hj2])
    refine ⟨i, fs.getD i 0, ixN_nat (by rw [List.length_map]; exact hi2), by simp [List.getD_eq_getElem?_getD, List.getElem?_eq_getElem hi2], ?_⟩
    refine ⟨j, fs.getD j 0, ixN_nat (by rw [List.length_set, List.length_map]; exact hj2), ?_, ?_⟩
    · rw [List.getElem?_set_ne hij]
      simp [List.getD_eq_getElem?_getD, List.getElem?_eq_getElem hj2]
    · (try simp only [sumDD, eqS, reprD, wV, wC, wNil, wCons, wTup, wLst, wOp, wUn, wCall, wT, wNot, wAnd, wOr, wB, wAndV, wOrV, wNotV, wIf, wIsi, wChain, wNo, wPart, wSl, wSet, wSetO, wTg, wPnil, wPcons, wPar, wNext, wSeq, wRet, wRetO, wRetN, wIfS, wBrk, wCnt, wDrop, wFrz, wApp, wExt, wSetIx, wAugIx, wAug, wRnil, wRcons, wFn, wRaise, wWord, wRetH, wSetIxH, wCount, wIndex, wIsE, wListRg1, wListRg2, wYes, wIs, wIz, wIl, wIt, wIr1, wIr2, wSlS, wPop, wAppPop, R.wk, R.st, R.ar, R.bl, R.no, R.sq, R.slot, setsR, startR, List.map_cons, List.map_nil, List.cons_append, List.nil_append, List.length_cons, List.length_nil, List.replicate, List.getElem?_cons_zero, List.getElem?_cons_succ, Option.some.injEq, exists_eq_left', exists_eq_left, R.d.injEq, R.own.injEq, R.fr.injEq, List.set_cons_zero, List.set_cons_succ, addD, subD, mulDD, fdivD, modD, ltD, leD, gtD, geD, eqD, neD, isND, isnotND, inDD, notInDD, ixD, negD, lenD, absD, intD, min2D, max2D, listD, tupleD, slD, Nat.reduceAdd, Nat.reduceSub, Nat.add_zero, Nat.zero_add, true_and, and_true, ite_true, ite_false, if_true, if_false, Bool.false_eq_true, reduceIte, Option.some_inj, Bool.true_eq_false, tgW, tgWs, wipe3, List.set_nil, set_map])
      exact h
theorem ok_raw_behind (D : Txt K mg base T) : Cal false P w K mg base T 1 "raw_behind" C_raw_behind :=
  cal_of (wb := w_raw_behind) D.d_raw_behind sc_raw_behind bi_raw_behind l_raw_behind (fun f cdv A outer s H E hp hr hgd => ess_cons (es_setO (i := 3) sc_raw_behind.nd rfl (by first | exact Or.inl rfl | exact Or.inr rfl) (ev_callTy cr_list rfl D.n_list bb_list (el_cons selW (ev_var (pv 1)) (el_nil)))) (ess_cons (es_if (et_cmp (op_eqT (u64 hr)) (ev_ix ix_D (ev_var (pv 2)) (ev_int) (fun _ _ => rfl)) (ev_gs rfl D.c_FILL) (nomark _)) (ess_one (es_setIx (ev_ix ix_D (ev_var (pv 0)) (ev_ix ix_D (ev_var (pv 2)) (ev_int) (fun _ _ => rfl)) (fun _ _ => rfl)) (pv 3) (ev_ix ix_D (ev_var (pv 2)) (ev_int) (fun _ _ => rfl)))) (ess_one (es_if (et_cmp (op_eqT (u64 hr)) (ev_ix ix_D (ev_var (pv 2)) (ev_int) (fun _ _ => rfl)) (ev_gs rfl D.c_EMPTY) (nomark _)) (ess_one (es_setIx (ev_int) (pv 3) (ev_ix ix_D (ev_var (pv 2)) (ev_int) (fun _ _ => rfl)))) (ess_cons (es_set (i := 4) sc_raw_behind.nd rfl (by first | exact Or.inl rfl | exact Or.inr rfl) (ev_callB (cr_min2 rfl) rfl D.n_min bb_min (el_cons selW (ev_ix ix_D (ev_var (pv 3)) (ev_ix ix_D (ev_var (pv 2)) (ev_int) (fun _ _ => rfl)) (fun _ _ => rfl)) (el_cons selW (ev_op op_subD (ev_ix ix_D (ev_var (pv 0)) (ev_ix ix_D (ev_var (pv 2)) (ev_int) (fun _ _ => rfl)) (fun _ _ => rfl)) (ev_ix ix_D (ev_var (pv 3)) (ev_ix ix_D (ev_var (pv 2)) (ev_int) (fun _ _ => rfl)) (fun _ _ => rfl))) (el_nil))))) (ess_cons (es_augIx ip_sub (pv 3) (ev_ix ix_D (ev_var (pv 2)) (ev_int) (fun _ _ => rfl)) (ev_var (pv 4))) (ess_one (es_augIx ip_add (pv 3) (ev_ix ix_D (ev_var (pv 2)) (ev_int) (fun _ _ => rfl)) (ev_var (pv 4))))))))) (ess_one (es_ret (ev_callTy cr_tuple rfl D.n_tuple bb_tuple (el_cons selW (ev_var (pv 3)) (el_nil))))))) p_raw_behind
/-! ### behind -/
abbrev N_behind : List Str := ["jugs", "filling", "deed"]
theorem sc_behind : FnScope N_behind ["jugs", "filling", "deed"] (defScope s_behind) := ⟨rfl, rfl, rfl, by decide +kernel, rfl, by decide +kernel, by decide +kernel⟩
theorem bi_behind : BindsBy "behind" s_behind ["jugs", "filling", "deed"] := fun _ _ _ _ _ _ us hl => match us, hl with | [_, _, _], _ => rfl
def w_behind : WS := wSeq (wDrop (wFn C_check_jugs (wRcons (wV 0) (wRnil)))) (wSeq (wIfS (wNot (wT (wFn C_is_filling (wRcons (wV 0) (wRcons (wV 1) (wRnil)))))) (wRaise "NoFilling") (wNext)) (wSeq (wIfS (wNot (wT (wFn C_is_deed (wRcons (wV 0) (wRcons (wV 2) (wRnil)))))) (wRaise "NoDeed") (wNext)) (wRet (wFn C_raw_behind (wRcons (wV 0) (wRcons (wV 1) (wRcons (wV 2) (wRnil))))))))
theorem deed_of {n : Nat} {y : PyData} (h : deedOk n y = true) : ∃ d : Deed, y = d.toD ∧ d.ok n = true := by
  unfold deedOk at h
  split at h
  · rename_i k a
    rw [Bool.and_eq_true, Bool.or_eq_true, decide_eq_true_eq, decide_eq_true_eq] at h
    obtain ⟨hw, hk⟩ := h
    obtain ⟨i, rfl, i0, i1⟩ := within_int hw
    have e : ((i.toNat : Nat) : Int) = i := Int.toNat_of_nonneg i0
    rcases hk with rfl | rfl
    · exact ⟨.fill i.toNat, by simp [Deed.toD, e], by simp [Deed.ok]; omega⟩
    · exact ⟨.empty i.toNat, by simp [Deed.toD, e], by simp [Deed.ok]; omega⟩
  · rename_i k a b
    simp only [Bool.and_eq_true, decide_eq_true_eq] at h
    obtain ⟨⟨⟨ha, hb⟩, rfl⟩, hn⟩ := h
    simp only [within, Bool.and_eq_true, decide_eq_true_eq] at ha hb
    have e : ((a.toNat : Nat) : Int) = a := Int.toNat_of_nonneg ha.1
    have e2 : ((b.toNat : Nat) : Int) = b := Int.toNat_of_nonneg hb.1
    exact ⟨.pour a.toNat b.toNat, by simp [Deed.toD, e, e2], by simp [Deed.ok]; omega⟩
  · cases h
theorem ok_deed {n : Nat} {d : Deed} (h : d.ok n = true) : deedOk n d.toD = true := by
  cases d <;> simp [Deed.ok, Deed.toD, deedOk, within] at h ⊢ <;> omega
theorem head_deed (d : Deed) : headOk d.toD := by
  intro k r h
  cases d <;> simp [Deed.toD] at h
  · rw [← h.1]; exact sh_fill
  · rw [← h.1]; exact sh_empty
  · rw [← h.1]; exact sh_pour
theorem jugs_of {x : PyData} (h : okJugs x = true) : ∃ js : List Int, x = tupI js ∧ 1 ≤ js.length ∧ js.length ≤ 4 ∧ ∀ j ∈ js, 1 ≤ j ∧ j ≤ 12 := by
  unfold okJugs at h
  split at h
  · rename_i xs
    rw [Bool.and_eq_true, List.all_eq_true] at h
    obtain ⟨h1, h2⟩ := h
    have h1' : (1 : Int) ≤ xs.length ∧ (xs.length : Int) ≤ 4 := by simpa [sized] using h1
    have goI : ∀ xs : List PyData, (∀ x ∈ xs, within x 1 12 = true) → ∃ js : List Int, xs = js.map .int ∧ ∀ j ∈ js, 1 ≤ j ∧ j ≤ 12 := by
      intro xs
      induction xs with
      | nil => exact fun _ => ⟨[], rfl, fun _ h => by cases h⟩
      | cons x xs ih =>
        intro h
        obtain ⟨js, rfl, hj⟩ := ih fun y hy => h y (List.mem_cons_of_mem _ hy)
        obtain ⟨i, rfl, hi⟩ := within_int (h x List.mem_cons_self)
        exact ⟨i :: js, rfl, fun j hm => (List.mem_cons.mp hm).elim (fun e => by subst e; exact hi) (hj j)⟩
    obtain ⟨js, rfl, hj⟩ := goI xs h2
    rw [List.length_map] at h1'
    exact ⟨js, rfl, by omega, by omega, hj⟩
  · cases h
theorem fill_of {js : List Int} {y : PyData} (h : fillOk js y = true) : ∃ fs : List Int, y = tupI fs ∧ fs.length = js.length := by
  unfold fillOk at h
  split at h
  · rename_i ys
    rw [Bool.and_eq_true] at h
    obtain ⟨h1, h2⟩ := h
    have h1' : ys.length = js.length := by
      simp [sized] at h1
      omega
    have goI : ∀ (ys : List PyData) (js : List Int), ys.length = js.length → ((ys.zip js).all fun p => within p.1 0 p.2) = true → ∃ fs : List Int, ys = fs.map .int := by
      intro ys
      induction ys with
      | nil => exact fun _ _ _ => ⟨[], rfl⟩
      | cons y ys ih =>
        intro js hl ha
        cases js with
        | nil => cases hl
        | cons j js =>
          rw [List.zip_cons_cons, List.all_cons, Bool.and_eq_true] at ha
          obtain ⟨fs, rfl⟩ := ih js (by simpa using hl) ha.2
          obtain ⟨i, rfl, _⟩ := within_int ha.1
          exact ⟨i :: fs, rfl⟩
    obtain ⟨fs, rfl⟩ := goI ys js h1' h2
    exact ⟨fs, rfl, by simpa using h1'⟩
  · cases h
/-- behind's answer -/
def C_behind : Ct := fun rs Q X => ∃ x y z, rs = [.d x, .d y, .d z] ∧ headOk z ∧ (okJugs x = false → X ⟨"NoJugs", none⟩) ∧
  (∀ js, okJugs (tupI js) = true → x = tupI js → (fillOk js y = false → X ⟨"NoFilling", none⟩) ∧ (fillOk js y = true → deedOk js.length z = false → X ⟨"NoDeed", none⟩) ∧
    (∀ fs d, fillOk js y = true → y = tupI fs → fs.length = js.length → z = Deed.toD d → d.ok js.length = true → Q (.d (tupI (behindF js fs d)))))
theorem l_behind : ∀ rs Q X, C_behind rs Q X → rs.length = 3 := by
  rintro rs Q X ⟨_, _, _, rfl, _⟩
  rfl
theorem p_behind : ∀ rs Q X, C_behind rs Q X → w_behind ⟨fun _ => Q (.d .none), Q, fun _ => False, fun _ => False⟩ (startR N_behind rs) X := by
  rintro rs Q X ⟨x, y, z, rfl, hz, h1, h2⟩
  (try simp only [sumDD, eqS, reprD, wV, wC, wNil, wCons, wTup, wLst, wOp, wUn, wCall, wT, wNot, wAnd, wOr, wB, wAndV, wOrV, wNotV, wIf, wIsi, wChain, wNo, wPart, wSl, wSet, wSetO, wTg, wPnil, wPcons, wPar, wNext, wSeq, wRet, wRetO, wRetN, wIfS, wBrk, wCnt, wDrop, wFrz, wApp, wExt, wSetIx, wAugIx, wAug, wRnil, wRcons, wFn, wRaise, wWord, wRetH, wSetIxH, wCount, wIndex, wIsE, wListRg1, wListRg2, wYes, wIs, wIz, wIl, wIt, wIr1, wIr2, wSlS, wPop, wAppPop, R.wk, R.st, R.ar, R.bl, R.no, R.sq, R.slot, setsR, startR, List.map_cons, List.map_nil, List.cons_append, List.nil_append, List.length_cons, List.length_nil, List.replicate, List.getElem?_cons_zero, List.getElem?_cons_succ, Option.some.injEq, exists_eq_left', exists_eq_left, R.d.injEq, R.own.injEq, R.fr.injEq, List.set_cons_zero, List.set_cons_succ, addD, subD, mulDD, fdivD, modD, ltD, leD, gtD, geD, eqD, neD, isND, isnotND, inDD, notInDD, ixD, negD, lenD, absD, intD, min2D, max2D, listD, tupleD, slD, Nat.reduceAdd, Nat.reduceSub, Nat.add_zero, Nat.zero_add, true_and, and_true, ite_true, ite_false, if_true, if_false, Bool.false_eq_true, reduceIte, Option.some_inj, Bool.true_eq_false, tgW, tgWs, wipe3, List.set_nil, w_behind, C_check_jugs])
  refine ⟨x, rfl, fun hx => ?_, h1⟩
  obtain ⟨js, rfl, _⟩ := jugs_of hx
  obtain ⟨g1, g2, g3⟩ := h2 js hx rfl
  (try simp only [sumDD, eqS, reprD, wV, wC, wNil, wCons, wTup, wLst, wOp, wUn, wCall, wT, wNot, wAnd, wOr, wB, wAndV, wOrV, wNotV, wIf, wIsi, wChain, wNo, wPart, wSl, wSet, wSetO, wTg, wPnil, wPcons, wPar, wNext, wSeq, wRet, wRetO, wRetN, wIfS, wBrk, wCnt, wDrop, wFrz, wApp, wExt, wSetIx, wAugIx, wAug, wRnil, wRcons, wFn, wRaise, wWord, wRetH, wSetIxH, wCount, wIndex, wIsE, wListRg1, wListRg2, wYes, wIs, wIz, wIl, wIt, wIr1, wIr2, wSlS, wPop, wAppPop, R.wk, R.st, R.ar, R.bl, R.no, R.sq, R.slot, setsR, startR, List.map_cons, List.map_nil, List.cons_append, List.nil_append, List.length_cons, List.length_nil, List.replicate, List.getElem?_cons_zero, List.getElem?_cons_succ, Option.some.injEq, exists_eq_left', exists_eq_left, R.d.injEq, R.own.injEq, R.fr.injEq, List.set_cons_zero, List.set_cons_succ, addD, subD, mulDD, fdivD, modD, ltD, leD, gtD, geD, eqD, neD, isND, isnotND, inDD, notInDD, ixD, negD, lenD, absD, intD, min2D, max2D, listD, tupleD, slD, Nat.reduceAdd, Nat.reduceSub, Nat.add_zero, Nat.zero_add, true_and, and_true, ite_true, ite_false, if_true, if_false, Bool.false_eq_true, reduceIte, Option.some_inj, Bool.true_eq_false, tgW, tgWs, wipe3, List.set_nil, C_is_filling])
  refine ⟨js, y, rfl, ?_⟩
  cases hf : fillOk js y with
  | false =>
    (try simp only [sumDD, eqS, reprD, wV, wC, wNil, wCons, wTup, wLst, wOp, wUn, wCall, wT, wNot, wAnd, wOr, wB, wAndV, wOrV, wNotV, wIf, wIsi, wChain, wNo, wPart, wSl, wSet, wSetO, wTg, wPnil, wPcons, wPar, wNext, wSeq, wRet, wRetO, wRetN, wIfS, wBrk, wCnt, wDrop, wFrz, wApp, wExt, wSetIx, wAugIx, wAug, wRnil, wRcons, wFn, wRaise, wWord, wRetH, wSetIxH, wCount, wIndex, wIsE, wListRg1, wListRg2, wYes, wIs, wIz, wIl, wIt, wIr1, wIr2, wSlS, wPop, wAppPop, R.wk, R.st, R.ar, R.bl, R.no, R.sq, R.slot, setsR, startR, List.map_cons, List.map_nil, List.cons_append, List.nil_append, List.length_cons, List.length_nil, List.replicate, List.getElem?_cons_zero, List.getElem?_cons_succ, Option.some.injEq, exists_eq_left', exists_eq_left, R.d.injEq, R.own.injEq, R.fr.injEq, List.set_cons_zero, List.set_cons_succ, addD, subD, mulDD, fdivD, modD, ltD, leD, gtD, geD, eqD, neD, isND, isnotND, inDD, notInDD, ixD, negD, lenD, absD, intD, min2D, max2D, listD, tupleD, slD, Nat.reduceAdd, Nat.reduceSub, Nat.add_zero, Nat.zero_add, true_and, and_true, ite_true, ite_false, if_true, if_false, Bool.false_eq_true, reduceIte, Option.some_inj, Bool.true_eq_false, tgW, tgWs, wipe3, List.set_nil, Bool.not_false])
    exact g1 hf
  | true =>
    (try simp only [sumDD, eqS, reprD, wV, wC, wNil, wCons, wTup, wLst, wOp, wUn, wCall, wT, wNot, wAnd, wOr, wB, wAndV, wOrV, wNotV, wIf, wIsi, wChain, wNo, wPart, wSl, wSet, wSetO, wTg, wPnil, wPcons, wPar, wNext, wSeq, wRet, wRetO, wRetN, wIfS, wBrk, wCnt, wDrop, wFrz, wApp, wExt, wSetIx, wAugIx, wAug, wRnil, wRcons, wFn, wRaise, wWord, wRetH, wSetIxH, wCount, wIndex, wIsE, wListRg1, wListRg2, wYes, wIs, wIz, wIl, wIt, wIr1, wIr2, wSlS, wPop, wAppPop, R.wk, R.st, R.ar, R.bl, R.no, R.sq, R.slot, setsR, startR, List.map_cons, List.map_nil, List.cons_append, List.nil_append, List.length_cons, List.length_nil, List.replicate, List.getElem?_cons_zero, List.getElem?_cons_succ, Option.some.injEq, exists_eq_left', exists_eq_left, R.d.injEq, R.own.injEq, R.fr.injEq, List.set_cons_zero, List.set_cons_succ, addD, subD, mulDD, fdivD, modD, ltD, leD, gtD, geD, eqD, neD, isND, isnotND, inDD, notInDD, ixD, negD, lenD, absD, intD, min2D, max2D, listD, tupleD, slD, Nat.reduceAdd, Nat.reduceSub, Nat.add_zero, Nat.zero_add, true_and, and_true, ite_true, ite_false, if_true, if_false, Bool.false_eq_true, reduceIte, Option.some_inj, Bool.true_eq_false, tgW, tgWs, wipe3, List.set_nil, Bool.not_true, C_is_deed])
    refine ⟨js, z, rfl, hz, ?_⟩
    cases hd : deedOk js.length z with
    | false =>
      (try simp only [sumDD, eqS, reprD, wV, wC, wNil, wCons, wTup, wLst, wOp, wUn, wCall, wT, wNot, wAnd, wOr, wB, wAndV, wOrV, wNotV, wIf, wIsi, wChain, wNo, wPart, wSl, wSet, wSetO, wTg, wPnil, wPcons, wPar, wNext, wSeq, wRet, wRetO, wRetN, wIfS, wBrk, wCnt, wDrop, wFrz, wApp, wExt, wSetIx, wAugIx, wAug, wRnil, wRcons, wFn, wRaise, wWord, wRetH, wSetIxH, wCount, wIndex, wIsE, wListRg1, wListRg2, wYes, wIs, wIz, wIl, wIt, wIr1, wIr2, wSlS, wPop, wAppPop, R.wk, R.st, R.ar, R.bl, R.no, R.sq, R.slot, setsR, startR, List.map_cons, List.map_nil, List.cons_append, List.nil_append, List.length_cons, List.length_nil, List.replicate, List.getElem?_cons_zero, List.getElem?_cons_succ, Option.some.injEq, exists_eq_left', exists_eq_left, R.d.injEq, R.own.injEq, R.fr.injEq, List.set_cons_zero, List.set_cons_succ, addD, subD, mulDD, fdivD, modD, ltD, leD, gtD, geD, eqD, neD, isND, isnotND, inDD, notInDD, ixD, negD, lenD, absD, intD, min2D, max2D, listD, tupleD, slD, Nat.reduceAdd, Nat.reduceSub, Nat.add_zero, Nat.zero_add, true_and, and_true, ite_true, ite_false, if_true, if_false, Bool.false_eq_true, reduceIte, Option.some_inj, Bool.true_eq_false, tgW, tgWs, wipe3, List.set_nil, Bool.not_false])
      exact g2 hf hd
    | true =>
      obtain ⟨fs, rfl, hl⟩ := fill_of hf
      obtain ⟨d, rfl, ho⟩ := deed_of hd
      (try simp only [sumDD, eqS, reprD, wV, wC, wNil, wCons, wTup, wLst, wOp, wUn, wCall, wT, wNot, wAnd, wOr, wB, wAndV, wOrV, wNotV, wIf, wIsi, wChain, wNo, wPart, wSl, wSet, wSetO, wTg, wPnil, wPcons, wPar, wNext, wSeq, wRet, wRetO, wRetN, wIfS, wBrk, wCnt, wDrop, wFrz, wApp, wExt, wSetIx, wAugIx, wAug, wRnil, wRcons, wFn, wRaise, wWord, wRetH, wSetIxH, wCount, wIndex, wIsE, wListRg1, wListRg2, wYes, wIs, wIz, wIl, wIt, wIr1, wIr2, wSlS, wPop, wAppPop, R.wk, R.st, R.ar, R.bl, R.no, R.sq, R.slot, setsR, startR, List.map_cons, List.map_nil, List.cons_append, List.nil_append, List.length_cons, List.length_nil, List.replicate, List.getElem?_cons_zero, List.getElem?_cons_succ, Option.some.injEq, exists_eq_left', exists_eq_left, R.d.injEq, R.own.injEq, R.fr.injEq, List.set_cons_zero, List.set_cons_succ, addD, subD, mulDD, fdivD, modD, ltD, leD, gtD, geD, eqD, neD, isND, isnotND, inDD, notInDD, ixD, negD, lenD, absD, intD, min2D, max2D, listD, tupleD, slD, Nat.reduceAdd, Nat.reduceSub, Nat.add_zero, Nat.zero_add, true_and, and_true, ite_true, ite_false, if_true, if_false, Bool.false_eq_true, reduceIte, Option.some_inj, Bool.true_eq_false, tgW, tgWs, wipe3, List.set_nil, Bool.not_true, C_raw_behind])
      refine ⟨js, fs, d, rfl, hl, ho, ?_⟩
      (try simp only [sumDD, eqS, reprD, wV, wC, wNil, wCons, wTup, wLst, wOp, wUn, wCall, wT, wNot, wAnd, wOr, wB, wAndV, wOrV, wNotV, wIf, wIsi, wChain, wNo, wPart, wSl, wSet, wSetO, wTg, wPnil, wPcons, wPar, wNext, wSeq, wRet, wRetO, wRetN, wIfS, wBrk, wCnt, wDrop, wFrz, wApp, wExt, wSetIx, wAugIx, wAug, wRnil, wRcons, wFn, wRaise, wWord, wRetH, wSetIxH, wCount, wIndex, wIsE, wListRg1, wListRg2, wYes, wIs, wIz, wIl, wIt, wIr1, wIr2, wSlS, wPop, wAppPop, R.wk, R.st, R.ar, R.bl, R.no, R.sq, R.slot, setsR, startR, List.map_cons, List.map_nil, List.cons_append, List.nil_append, List.length_cons, List.length_nil, List.replicate, List.getElem?_cons_zero, List.getElem?_cons_succ, Option.some.injEq, exists_eq_left', exists_eq_left, R.d.injEq, R.own.injEq, R.fr.injEq, List.set_cons_zero, List.set_cons_succ, addD, subD, mulDD, fdivD, modD, ltD, leD, gtD, geD, eqD, neD, isND, isnotND, inDD, notInDD, ixD, negD, lenD, absD, intD, min2D, max2D, listD, tupleD, slD, Nat.reduceAdd, Nat.reduceSub, Nat.add_zero, Nat.zero_add, true_and, and_true, ite_true, ite_false, if_true, if_false, Bool.false_eq_true, reduceIte, Option.some_inj, Bool.true_eq_false, tgW, tgWs, wipe3, List.set_nil])
      exact g3 fs d hf rfl hl rfl ho
theorem ok_behind (D : Txt K mg base T) : Cal false P w K mg base T 4 "behind" C_behind :=
  cal_of (wb := w_behind) D.d_behind sc_behind bi_behind l_behind (fun f cdv A outer s H E hp hr hgd => ess_cons (es_drop (ev_fnC (ok_check_jugs D) hr (by decide) (fun h => by cases h) rfl pass_cx (er_cons (ev_var (pv 0)) (er_nil)))) (ess_cons (es_if (et_not (et_val (ev_fnC (ok_is_filling D) hr (by decide) (fun h => by cases h) rfl pass_cx (er_cons (ev_var (pv 0)) (er_cons (ev_var (pv 1)) (er_nil)))))) (ess_one (es_raiseE rfl (takes_of rfl rfl rfl rfl) D.x_NoFilling rfl)) (ess_nil)) (ess_cons (es_if (et_not (et_val (ev_fnC (ok_is_deed D) hr (by decide) (fun h => by cases h) rfl pass_cx (er_cons (ev_var (pv 0)) (er_cons (ev_var (pv 2)) (er_nil)))))) (ess_one (es_raiseE rfl (takes_of rfl rfl rfl rfl) D.x_NoDeed rfl)) (ess_nil)) (ess_one (es_ret (ev_fnC (ok_raw_behind D) hr (by decide) (fun h => by cases h) rfl pass_cx (er_cons (ev_var (pv 0)) (er_cons (ev_var (pv 1)) (er_cons (ev_var (pv 2)) (er_nil)))))))))) p_behind
/-! ### are_deeds -/
abbrev N_are_deeds : List Str := ["jugs", "thing", "deed"]
theorem sc_are_deeds : FnScope N_are_deeds ["jugs", "thing"] (defScope s_are_deeds) := ⟨rfl, rfl, rfl, by decide +kernel, rfl, by decide +kernel, by decide +kernel⟩
theorem bi_are_deeds : BindsBy "are_deeds" s_are_deeds ["jugs", "thing"] := fun _ _ _ _ _ _ us hl => match us, hl with | [_, _], _ => rfl
def w_are_deeds : WS := wRet (wAndV (wFn C_is_sized (wRcons (wV 1) (wRcons (wC (.int 0)) (wRcons (wC (.int 200)) (wRnil))))) (wCall allD (wCons R.wk (wLc (wIs (wV 1)) (.one 2) wYes (wFn C_is_deed (wRcons (wV 0) (wRcons (wV 2) (wRnil)))) [2]) (wNil))))
def deedsOk (n : Nat) (y : PyData) : Bool := match y with
  | .tuple ds => sized y 0 200 && ds.all (deedOk n)
  | _ => false
def headsOk (y : PyData) : Prop := ∀ ds, y = .tuple ds → ∀ d ∈ ds, headOk d
def C_are_deeds : Ct := fun rs Q _ => ∃ js y, rs = [.d (tupI js), .d y] ∧ headsOk y ∧ Q (.d (.bool (deedsOk js.length y)))
theorem l_are_deeds : ∀ rs Q X, C_are_deeds rs Q X → rs.length = 2 := by
  rintro rs Q X ⟨_, _, rfl, _⟩
  rfl
theorem p_are_deeds : ∀ rs Q X, C_are_deeds rs Q X → w_are_deeds ⟨fun _ => Q (.d .none), Q, fun _ => False, fun _ => False⟩ (startR N_are_deeds rs) X := by
  rintro rs Q X ⟨js, y, rfl, hh, h⟩
  (try simp only [sumDD, eqS, reprD, wV, wC, wNil, wCons, wTup, wLst, wOp, wUn, wCall, wT, wNot, wAnd, wOr, wB, wAndV, wOrV, wNotV, wIf, wIsi, wChain, wNo, wPart, wSl, wSet, wSetO, wTg, wPnil, wPcons, wPar, wNext, wSeq, wRet, wRetO, wRetN, wIfS, wBrk, wCnt, wDrop, wFrz, wApp, wExt, wSetIx, wAugIx, wAug, wRnil, wRcons, wFn, wRaise, wWord, wRetH, wSetIxH, wCount, wIndex, wIsE, wListRg1, wListRg2, wYes, wIs, wIz, wIl, wIt, wIr1, wIr2, wSlS, wPop, wAppPop, R.wk, R.st, R.ar, R.bl, R.no, R.sq, R.slot, setsR, startR, List.map_cons, List.map_nil, List.cons_append, List.nil_append, List.length_cons, List.length_nil, List.replicate, List.getElem?_cons_zero, List.getElem?_cons_succ, Option.some.injEq, exists_eq_left', exists_eq_left, R.d.injEq, R.own.injEq, R.fr.injEq, List.set_cons_zero, List.set_cons_succ, addD, subD, mulDD, fdivD, modD, ltD, leD, gtD, geD, eqD, neD, isND, isnotND, inDD, notInDD, ixD, negD, lenD, absD, intD, min2D, max2D, listD, tupleD, slD, Nat.reduceAdd, Nat.reduceSub, Nat.add_zero, Nat.zero_add, true_and, and_true, ite_true, ite_false, if_true, if_false, Bool.false_eq_true, reduceIte, Option.some_inj, Bool.true_eq_false, tgW, tgWs, wipe3, List.set_nil, w_are_deeds, C_is_sized])
  refine ⟨y, 0, 200, rfl, ?_⟩
  cases y with
  | tuple xs =>
    (try simp only [sumDD, eqS, reprD, wV, wC, wNil, wCons, wTup, wLst, wOp, wUn, wCall, wT, wNot, wAnd, wOr, wB, wAndV, wOrV, wNotV, wIf, wIsi, wChain, wNo, wPart, wSl, wSet, wSetO, wTg, wPnil, wPcons, wPar, wNext, wSeq, wRet, wRetO, wRetN, wIfS, wBrk, wCnt, wDrop, wFrz, wApp, wExt, wSetIx, wAugIx, wAug, wRnil, wRcons, wFn, wRaise, wWord, wRetH, wSetIxH, wCount, wIndex, wIsE, wListRg1, wListRg2, wYes, wIs, wIz, wIl, wIt, wIr1, wIr2, wSlS, wPop, wAppPop, R.wk, R.st, R.ar, R.bl, R.no, R.sq, R.slot, setsR, startR, List.map_cons, List.map_nil, List.cons_append, List.nil_append, List.length_cons, List.length_nil, List.replicate, List.getElem?_cons_zero, List.getElem?_cons_succ, Option.some.injEq, exists_eq_left', exists_eq_left, R.d.injEq, R.own.injEq, R.fr.injEq, List.set_cons_zero, List.set_cons_succ, addD, subD, mulDD, fdivD, modD, ltD, leD, gtD, geD, eqD, neD, isND, isnotND, inDD, notInDD, ixD, negD, lenD, absD, intD, min2D, max2D, listD, tupleD, slD, Nat.reduceAdd, Nat.reduceSub, Nat.add_zero, Nat.zero_add, true_and, and_true, ite_true, ite_false, if_true, if_false, Bool.false_eq_true, reduceIte, Option.some_inj, Bool.true_eq_false, tgW, tgWs, wipe3, List.set_nil])
    cases hs : sized (.tuple xs) 0 200 with
    | false => simpa [deedsOk, hs, R.no] using h
    | true =>
      (try simp only [sumDD, eqS, reprD, wV, wC, wNil, wCons, wTup, wLst, wOp, wUn, wCall, wT, wNot, wAnd, wOr, wB, wAndV, wOrV, wNotV, wIf, wIsi, wChain, wNo, wPart, wSl, wSet, wSetO, wTg, wPnil, wPcons, wPar, wNext, wSeq, wRet, wRetO, wRetN, wIfS, wBrk, wCnt, wDrop, wFrz, wApp, wExt, wSetIx, wAugIx, wAug, wRnil, wRcons, wFn, wRaise, wWord, wRetH, wSetIxH, wCount, wIndex, wIsE, wListRg1, wListRg2, wYes, wIs, wIz, wIl, wIt, wIr1, wIr2, wSlS, wPop, wAppPop, R.wk, R.st, R.ar, R.bl, R.no, R.sq, R.slot, setsR, startR, List.map_cons, List.map_nil, List.cons_append, List.nil_append, List.length_cons, List.length_nil, List.replicate, List.getElem?_cons_zero, List.getElem?_cons_succ, Option.some.injEq, exists_eq_left', exists_eq_left, R.d.injEq, R.own.injEq, R.fr.injEq, List.set_cons_zero, List.set_cons_succ, addD, subD, mulDD, fdivD, modD, ltD, leD, gtD, geD, eqD, neD, isND, isnotND, inDD, notInDD, ixD, negD, lenD, absD, intD, min2D, max2D, listD, tupleD, slD, Nat.reduceAdd, Nat.reduceSub, Nat.add_zero, Nat.zero_add, true_and, and_true, ite_true, ite_false, if_true, if_false, Bool.false_eq_true, reduceIte, Option.some_inj, Bool.true_eq_false, tgW, tgWs, wipe3, List.set_nil, wLc])
      refine lc_map (fun y => .bool (deedOk js.length y)) xs (fun y hy k hk => ?_) ?_
      · (try simp only [sumDD, eqS, reprD, wV, wC, wNil, wCons, wTup, wLst, wOp, wUn, wCall, wT, wNot, wAnd, wOr, wB, wAndV, wOrV, wNotV, wIf, wIsi, wChain, wNo, wPart, wSl, wSet, wSetO, wTg, wPnil, wPcons, wPar, wNext, wSeq, wRet, wRetO, wRetN, wIfS, wBrk, wCnt, wDrop, wFrz, wApp, wExt, wSetIx, wAugIx, wAug, wRnil, wRcons, wFn, wRaise, wWord, wRetH, wSetIxH, wCount, wIndex, wIsE, wListRg1, wListRg2, wYes, wIs, wIz, wIl, wIt, wIr1, wIr2, wSlS, wPop, wAppPop, R.wk, R.st, R.ar, R.bl, R.no, R.sq, R.slot, setsR, startR, List.map_cons, List.map_nil, List.cons_append, List.nil_append, List.length_cons, List.length_nil, List.replicate, List.getElem?_cons_zero, List.getElem?_cons_succ, Option.some.injEq, exists_eq_left', exists_eq_left, R.d.injEq, R.own.injEq, R.fr.injEq, List.set_cons_zero, List.set_cons_succ, addD, subD, mulDD, fdivD, modD, ltD, leD, gtD, geD, eqD, neD, isND, isnotND, inDD, notInDD, ixD, negD, lenD, absD, intD, min2D, max2D, listD, tupleD, slD, Nat.reduceAdd, Nat.reduceSub, Nat.add_zero, Nat.zero_add, true_and, and_true, ite_true, ite_false, if_true, if_false, Bool.false_eq_true, reduceIte, Option.some_inj, Bool.true_eq_false, tgW, tgWs, wipe3, List.set_nil, C_is_deed])
        exact ⟨js, y, rfl, hh _ rfl y hy, hk⟩
      · (try simp only [sumDD, eqS, reprD, wV, wC, wNil, wCons, wTup, wLst, wOp, wUn, wCall, wT, wNot, wAnd, wOr, wB, wAndV, wOrV, wNotV, wIf, wIsi, wChain, wNo, wPart, wSl, wSet, wSetO, wTg, wPnil, wPcons, wPar, wNext, wSeq, wRet, wRetO, wRetN, wIfS, wBrk, wCnt, wDrop, wFrz, wApp, wExt, wSetIx, wAugIx, wAug, wRnil, wRcons, wFn, wRaise, wWord, wRetH, wSetIxH, wCount, wIndex, wIsE, wListRg1, wListRg2, wYes, wIs, wIz, wIl, wIt, wIr1, wIr2, wSlS, wPop, wAppPop, R.wk, R.st, R.ar, R.bl, R.no, R.sq, R.slot, setsR, startR, List.map_cons, List.map_nil, List.cons_append, List.nil_append, List.length_cons, List.length_nil, List.replicate, List.getElem?_cons_zero, List.getElem?_cons_succ, Option.some.injEq, exists_eq_left', exists_eq_left, R.d.injEq, R.own.injEq, R.fr.injEq, List.set_cons_zero, List.set_cons_succ, addD, subD, mulDD, fdivD, modD, ltD, leD, gtD, geD, eqD, neD, isND, isnotND, inDD, notInDD, ixD, negD, lenD, absD, intD, min2D, max2D, listD, tupleD, slD, Nat.reduceAdd, Nat.reduceSub, Nat.add_zero, Nat.zero_add, true_and, and_true, ite_true, ite_false, if_true, if_false, Bool.false_eq_true, reduceIte, Option.some_inj, Bool.true_eq_false, tgW, tgWs, wipe3, List.set_nil, allD])
        refine ⟨xs.map (deedOk js.length), by rw [List.map_map]; rfl, ?_⟩
        (try simp only [sumDD, eqS, reprD, wV, wC, wNil, wCons, wTup, wLst, wOp, wUn, wCall, wT, wNot, wAnd, wOr, wB, wAndV, wOrV, wNotV, wIf, wIsi, wChain, wNo, wPart, wSl, wSet, wSetO, wTg, wPnil, wPcons, wPar, wNext, wSeq, wRet, wRetO, wRetN, wIfS, wBrk, wCnt, wDrop, wFrz, wApp, wExt, wSetIx, wAugIx, wAug, wRnil, wRcons, wFn, wRaise, wWord, wRetH, wSetIxH, wCount, wIndex, wIsE, wListRg1, wListRg2, wYes, wIs, wIz, wIl, wIt, wIr1, wIr2, wSlS, wPop, wAppPop, R.wk, R.st, R.ar, R.bl, R.no, R.sq, R.slot, setsR, startR, List.map_cons, List.map_nil, List.cons_append, List.nil_append, List.length_cons, List.length_nil, List.replicate, List.getElem?_cons_zero, List.getElem?_cons_succ, Option.some.injEq, exists_eq_left', exists_eq_left, R.d.injEq, R.own.injEq, R.fr.injEq, List.set_cons_zero, List.set_cons_succ, addD, subD, mulDD, fdivD, modD, ltD, leD, gtD, geD, eqD, neD, isND, isnotND, inDD, notInDD, ixD, negD, lenD, absD, intD, min2D, max2D, listD, tupleD, slD, Nat.reduceAdd, Nat.reduceSub, Nat.add_zero, Nat.zero_add, true_and, and_true, ite_true, ite_false, if_true, if_false, Bool.false_eq_true, reduceIte, Option.some_inj, Bool.true_eq_false, tgW, tgWs, wipe3, List.set_nil])
        rw [List.all_map]
        have e : deedsOk js.length (.tuple xs) = xs.all (id ∘ deedOk js.length) := by simp [deedsOk, hs]
        rw [← e]
        exact h
  | _ => simpa [sized, deedsOk, R.no, R.bl] using h
theorem ok_are_deeds (D : Txt K mg base T) : Cal false P w K mg base T 4 "are_deeds" C_are_deeds :=
  cal_of (wb := w_are_deeds) D.d_are_deeds sc_are_deeds bi_are_deeds l_are_deeds (fun f cdv A outer s H E hp hr hgd => ess_one (es_ret (ev_and (ev_fnC (ok_is_sized D) hr (by decide) (fun h => by cases h) rfl pass_cx (er_cons (ev_var (pv 1)) (er_cons (ev_int) (er_cons (ev_gi rfl D.c_MOST_DEEDS) (er_nil))))) (ev_one (ev_callB (cr_allD rfl) rfl D.n_all bb_all (el_cons selW (ev_lc (own := [("deed", 2)]) (g := .one 2) rfl sc_are_deeds.nd (ei_seq (ev_var (pv 1))) (blkOk_by (N := N_are_deeds) (sc := defScope s_are_deeds) (by decide +kernel)) (by decide) (fun _ _ _ _ _ => pg_name (i := 2) sc_are_deeds.nd rfl (Or.inl rfl)) (fun _ _ _ _ _ => eb_yes) (fun _ _ _ _ _ => ev_fnC (ok_is_deed D) hr (by decide) (fun h => by cases h) rfl passL (er_cons (ev_var (pv 0)) (er_cons (ev_var (pv 2)) (er_nil))))) (el_nil))))))) p_are_deeds
/-! ### raw_run -/
abbrev N_raw_run : List Str := ["jugs", "deeds", "found", "deed"]
theorem sc_raw_run : FnScope N_raw_run ["jugs", "deeds"] (defScope s_raw_run) := ⟨rfl, rfl, rfl, by decide +kernel, rfl, by decide +kernel, by decide +kernel⟩
theorem bi_raw_run : BindsBy "raw_run" s_raw_run ["jugs", "deeds"] := fun _ _ _ _ _ _ us hl => match us, hl with | [_, _], _ => rfl
def w_raw_run : WS := wSeq (wSetO 2 (wLst (wCons R.st (wOp mulDD (wTup (wCons R.st (wC (.int 0)) (wNil))) (wCall lenD (wCons R.wk (wV 0) (wNil)))) (wNil)))) (wSeq (wFor (wIs (wV 1)) (.one 3) (wApp 2 (wFn C_raw_behind (wRcons (wV 0) (wRcons (wOp ixD (wV 2) (wUn negD (wC (.int 1)))) (wRcons (wV 3) (wRnil))))))) (wRetO 2))
def runF (js : List Int) : List Int → List Deed → List (List Int)
  | f, [] => [f]
  | f, d :: ds => f :: runF js (behindF js f d) ds
def lastF (js : List Int) : List Int → List Deed → List Int
  | f, [] => f
  | f, d :: ds => lastF js (behindF js f d) ds
def zeros (n : Nat) : List Int := List.replicate n 0
def rowsD (rows : List (List Int)) : List PyData := rows.map tupI
def C_raw_run : Ct := fun rs Q _ => ∃ js ds, rs = [.d (tupI js), .d (.tuple (ds.map Deed.toD))] ∧ js.length ≤ 4 ∧ ds.length ≤ 200 ∧ (∀ d ∈ ds, d.ok js.length = true) ∧ Q (.fr (rowsD (runF js (zeros js.length) ds)))
theorem l_raw_run : ∀ rs Q X, C_raw_run rs Q X → rs.length = 2 := by
  rintro rs Q X ⟨_, _, rfl, _⟩
  rfl
theorem zeros_D (n : Nat) : (List.replicate n [PyData.int 0]).flatten = (zeros n).map .int := by
  induction n with
  | zero => rfl
  | succ n ih =>
    rw [List.replicate_succ, List.flatten_cons, ih]
    rfl
theorem zeros_len (n : Nat) : (zeros n).length = n := List.length_replicate
theorem p_raw_run : ∀ rs Q X, C_raw_run rs Q X → w_raw_run ⟨fun _ => Q (.d .none), Q, fun _ => False, fun _ => False⟩ (startR N_raw_run rs) X := by
  rintro rs Q X ⟨js, ds, rfl, hj, hn, hd, h⟩
  (try simp only [sumDD, eqS, reprD, wV, wC, wNil, wCons, wTup, wLst, wOp, wUn, wCall, wT, wNot, wAnd, wOr, wB, wAndV, wOrV, wNotV, wIf, wIsi, wChain, wNo, wPart, wSl, wSet, wSetO, wTg, wPnil, wPcons, wPar, wNext, wSeq, wRet, wRetO, wRetN, wIfS, wBrk, wCnt, wDrop, wFrz, wApp, wExt, wSetIx, wAugIx, wAug, wRnil, wRcons, wFn, wRaise, wWord, wRetH, wSetIxH, wCount, wIndex, wIsE, wListRg1, wListRg2, wYes, wIs, wIz, wIl, wIt, wIr1, wIr2, wSlS, wPop, wAppPop, R.wk, R.st, R.ar, R.bl, R.no, R.sq, R.slot, setsR, startR, List.map_cons, List.map_nil, List.cons_append, List.nil_append, List.length_cons, List.length_nil, List.replicate, List.getElem?_cons_zero, List.getElem?_cons_succ, Option.some.injEq, exists_eq_left', exists_eq_left, R.d.injEq, R.own.injEq, R.fr.injEq, List.set_cons_zero, List.set_cons_succ, addD, subD, mulDD, fdivD, modD, ltD, leD, gtD, geD, eqD, neD, isND, isnotND, inDD, notInDD, ixD, negD, lenD, absD, intD, min2D, max2D, listD, tupleD, slD, Nat.reduceAdd, Nat.reduceSub, Nat.add_zero, Nat.zero_add, true_and, and_true, ite_true, ite_false, if_true, if_false, Bool.false_eq_true, reduceIte, Option.some_inj, Bool.true_eq_false, tgW, tgWs, wipe3, List.set_nil, w_raw_run, tupI, List.length_map, wFor])
  refine ⟨⟨by omega, by omega, by omega⟩, ?_⟩
  rw [Int.toNat_natCast, zeros_D]
  refine for_rule (fun rest ρ => ∃ (done : List (List Int)) (f : List Int) (todo : List Deed) (o : Option R), rest = todo.map Deed.toD ∧ ρ = [some (.d (tupI js)), some (.d (.tuple (ds.map Deed.toD))), some (.own (rowsD done ++ [tupI f])), o] ∧
    f.length = js.length ∧ done.length + todo.length ≤ 200 ∧ (∀ d ∈ todo, d.ok js.length = true) ∧ rowsD done ++ rowsD (runF js f todo) = rowsD (runF js (zeros js.length) ds)) _ _ ?_ ?_ ?_
  · exact ⟨[], zeros js.length, ds, none, rfl, rfl, zeros_len _, by simpa using hn, hd, rfl⟩
  · rintro ρ ⟨done, f, todo, o, e, rfl, hl, hc, ho, hr⟩
    cases todo with
    | nil =>
      (try simp only [sumDD, eqS, reprD, wV, wC, wNil, wCons, wTup, wLst, wOp, wUn, wCall, wT, wNot, wAnd, wOr, wB, wAndV, wOrV, wNotV, wIf, wIsi, wChain, wNo, wPart, wSl, wSet, wSetO, wTg, wPnil, wPcons, wPar, wNext, wSeq, wRet, wRetO, wRetN, wIfS, wBrk, wCnt, wDrop, wFrz, wApp, wExt, wSetIx, wAugIx, wAug, wRnil, wRcons, wFn, wRaise, wWord, wRetH, wSetIxH, wCount, wIndex, wIsE, wListRg1, wListRg2, wYes, wIs, wIz, wIl, wIt, wIr1, wIr2, wSlS, wPop, wAppPop, R.wk, R.st, R.ar, R.bl, R.no, R.sq, R.slot, setsR, startR, List.map_cons, List.map_nil, List.cons_append, List.nil_append, List.length_cons, List.length_nil, List.replicate, List.getElem?_cons_zero, List.getElem?_cons_succ, Option.some.injEq, exists_eq_left', exists_eq_left, R.d.injEq, R.own.injEq, R.fr.injEq, List.set_cons_zero, List.set_cons_succ, addD, subD, mulDD, fdivD, modD, ltD, leD, gtD, geD, eqD, neD, isND, isnotND, inDD, notInDD, ixD, negD, lenD, absD, intD, min2D, max2D, listD, tupleD, slD, Nat.reduceAdd, Nat.reduceSub, Nat.add_zero, Nat.zero_add, true_and, and_true, ite_true, ite_false, if_true, if_false, Bool.false_eq_true, reduceIte, Option.some_inj, Bool.true_eq_false, tgW, tgWs, wipe3, List.set_nil])
      rw [← hr] at h
      exact h
    | cons d t => cases e
  · rintro x xs ρ ⟨done, f, todo, o, e, rfl, hl, hc, ho, hr⟩ N hN
    cases todo with
    | nil => cases e
    | cons d t =>
      rw [List.map_cons] at e
      cases e
      (try simp only [sumDD, eqS, reprD, wV, wC, wNil, wCons, wTup, wLst, wOp, wUn, wCall, wT, wNot, wAnd, wOr, wB, wAndV, wOrV, wNotV, wIf, wIsi, wChain, wNo, wPart, wSl, wSet, wSetO, wTg, wPnil, wPcons, wPar, wNext, wSeq, wRet, wRetO, wRetN, wIfS, wBrk, wCnt, wDrop, wFrz, wApp, wExt, wSetIx, wAugIx, wAug, wRnil, wRcons, wFn, wRaise, wWord, wRetH, wSetIxH, wCount, wIndex, wIsE, wListRg1, wListRg2, wYes, wIs, wIz, wIl, wIt, wIr1, wIr2, wSlS, wPop, wAppPop, R.wk, R.st, R.ar, R.bl, R.no, R.sq, R.slot, setsR, startR, List.map_cons, List.map_nil, List.cons_append, List.nil_append, List.length_cons, List.length_nil, List.replicate, List.getElem?_cons_zero, List.getElem?_cons_succ, Option.some.injEq, exists_eq_left', exists_eq_left, R.d.injEq, R.own.injEq, R.fr.injEq, List.set_cons_zero, List.set_cons_succ, addD, subD, mulDD, fdivD, modD, ltD, leD, gtD, geD, eqD, neD, isND, isnotND, inDD, notInDD, ixD, negD, lenD, absD, intD, min2D, max2D, listD, tupleD, slD, Nat.reduceAdd, Nat.reduceSub, Nat.add_zero, Nat.zero_add, true_and, and_true, ite_true, ite_false, if_true, if_false, Bool.false_eq_true, reduceIte, Option.some_inj, Bool.true_eq_false, tgW, tgWs, wipe3, List.set_nil, C_raw_behind, at_last])
      refine ⟨js, f, d, rfl, hl, ho d List.mem_cons_self, ?_⟩
      (try simp only [sumDD, eqS, reprD, wV, wC, wNil, wCons, wTup, wLst, wOp, wUn, wCall, wT, wNot, wAnd, wOr, wB, wAndV, wOrV, wNotV, wIf, wIsi, wChain, wNo, wPart, wSl, wSet, wSetO, wTg, wPnil, wPcons, wPar, wNext, wSeq, wRet, wRetO, wRetN, wIfS, wBrk, wCnt, wDrop, wFrz, wApp, wExt, wSetIx, wAugIx, wAug, wRnil, wRcons, wFn, wRaise, wWord, wRetH, wSetIxH, wCount, wIndex, wIsE, wListRg1, wListRg2, wYes, wIs, wIz, wIl, wIt, wIr1, wIr2, wSlS, wPop, wAppPop, R.wk, R.st, R.ar, R.bl, R.no, R.sq, R.slot, setsR, startR, List.map_cons, List.map_nil, List.cons_append, List.nil_append, List.length_cons, List.length_nil, List.replicate, List.getElem?_cons_zero, List.getElem?_cons_succ, Option.some.injEq, exists_eq_left', exists_eq_left, R.d.injEq, R.own.injEq, R.fr.injEq, List.set_cons_zero, List.set_cons_succ, addD, subD, mulDD, fdivD, modD, ltD, leD, gtD, geD, eqD, neD, isND, isnotND, inDD, notInDD, ixD, negD, lenD, absD, intD, min2D, max2D, listD, tupleD, slD, Nat.reduceAdd, Nat.reduceSub, Nat.add_zero, Nat.zero_add, true_and, and_true, ite_true, ite_false, if_true, if_false, Bool.false_eq_true, reduceIte, Option.some_inj, Bool.true_eq_false, tgW, tgWs, wipe3, List.set_nil])
      refine ⟨?_, hN _ ⟨done ++ [f], behindF js f d, t, some (.d d.toD), rfl, ?_, ?_, ?_, fun d' hd' => ho d' (List.mem_cons_of_mem _ hd'), ?_⟩⟩
      · rw [sizeLine_eq]
        simp [rowsD] at hc ⊢
        omega
      · simp [rowsD]
      · rw [behindF_len]
        exact hl
      · simp at hc ⊢
        omega
      · rw [← hr]
        simp [rowsD, runF]
theorem ok_raw_run (D : Txt K mg base T) : Cal false P w K mg base T 2 "raw_run" C_raw_run :=
  cal_of (wb := w_raw_run) D.d_raw_run sc_raw_run bi_raw_run l_raw_run (fun f cdv A outer s H E hp hr hgd => ess_cons (es_setO (i := 2) sc_raw_run.nd rfl (by first | exact Or.inl rfl | exact Or.inr rfl) (ev_lst (el_cons selS (ev_op op_mulDD (ev_tup (el_cons selS (ev_int) (el_nil))) (ev_callB cr_len rfl D.n_len bb_len (el_cons selW (ev_var (pv 0)) (el_nil)))) (el_nil)))) (ess_cons (es_for (g := .one 3) own_cx rfl (ei_seq (ev_var (pv 1))) (pg_name (i := 3) sc_raw_run.nd rfl (by first | exact Or.inl rfl | exact Or.inr rfl)) (ess_one (es_app (pv 2) (ev_fnC (ok_raw_behind D) hr (by decide) (fun h => by cases h) rfl pass_cx (er_cons (ev_var (pv 0)) (er_cons (ev_ix ix_D (ev_var (pv 2)) (ev_un un_negD (ev_int)) (fun _ _ => rfl)) (er_cons (ev_var (pv 3)) (er_nil)))))))) (ess_one (es_retO (pv 2))))) p_raw_run
/-! ### run_of -/
abbrev N_run_of : List Str := ["jugs", "deeds"]
theorem sc_run_of : FnScope N_run_of ["jugs", "deeds"] (defScope s_run_of) := ⟨rfl, rfl, rfl, by decide +kernel, rfl, by decide +kernel, by decide +kernel⟩
theorem bi_run_of : BindsBy "run_of" s_run_of ["jugs", "deeds"] := fun _ _ _ _ _ _ us hl => match us, hl with | [_, _], _ => rfl
def w_run_of : WS := wSeq (wDrop (wFn C_check_jugs (wRcons (wV 0) (wRnil)))) (wSeq (wIfS (wNot (wT (wFn C_are_deeds (wRcons (wV 0) (wRcons (wV 1) (wRnil)))))) (wRaise "NoDeeds") (wNext)) (wRet (wCall tupleD (wCons R.wk (wFn C_raw_run (wRcons (wV 0) (wRcons (wV 1) (wRnil)))) (wNil)))))
def C_run_of : Ct := fun rs Q X => ∃ x y, rs = [.d x, .d y] ∧ headsOk y ∧ (okJugs x = false → X ⟨"NoJugs", none⟩) ∧
  (∀ js, okJugs (tupI js) = true → x = tupI js → (deedsOk js.length y = false → X ⟨"NoDeeds", none⟩) ∧
    (∀ ds, y = .tuple (ds.map Deed.toD) → deedsOk js.length y = true → (∀ d ∈ ds, d.ok js.length = true) → Q (.d (.tuple (rowsD (runF js (zeros js.length) ds))))))
theorem l_run_of : ∀ rs Q X, C_run_of rs Q X → rs.length = 2 := by
  rintro rs Q X ⟨_, _, rfl, _⟩
  rfl
theorem deeds_of {n : Nat} {y : PyData} (h : deedsOk n y = true) : ∃ ds : List Deed, y = .tuple (ds.map Deed.toD) ∧ ds.length ≤ 200 ∧ ∀ d ∈ ds, d.ok n = true := by
  unfold deedsOk at h
  split at h
  · rename_i xs
    rw [Bool.and_eq_true, List.all_eq_true] at h
    obtain ⟨h1, h2⟩ := h
    have h1' : xs.length ≤ 200 := by
      simp [sized] at h1
      omega
    have go : ∀ xs : List PyData, (∀ x ∈ xs, deedOk n x = true) → ∃ ds : List Deed, xs = ds.map Deed.toD ∧ ∀ d ∈ ds, d.ok n = true := by
      intro xs
      induction xs with
      | nil => exact fun _ => ⟨[], rfl, fun _ h => by cases h⟩
      | cons x xs ih =>
        intro h
        obtain ⟨ds, rfl, hj⟩ := ih fun y hy => h y (List.mem_cons_of_mem _ hy)
        obtain ⟨d, rfl, hi⟩ := deed_of (h x List.mem_cons_self)
        exact ⟨d :: ds, rfl, fun j hm => (List.mem_cons.mp hm).elim (fun e => by subst e; exact hi) (hj j)⟩
    obtain ⟨ds, rfl, hd⟩ := go xs h2
    exact ⟨ds, rfl, by simpa using h1', hd⟩
  · cases h
theorem p_run_of : ∀ rs Q X, C_run_of rs Q X → w_run_of ⟨fun _ => Q (.d .none), Q, fun _ => False, fun _ => False⟩ (startR N_run_of rs) X := by
  rintro rs Q X ⟨x, y, rfl, hy, h1, h2⟩
  (try simp only [sumDD, eqS, reprD, wV, wC, wNil, wCons, wTup, wLst, wOp, wUn, wCall, wT, wNot, wAnd, wOr, wB, wAndV, wOrV, wNotV, wIf, wIsi, wChain, wNo, wPart, wSl, wSet, wSetO, wTg, wPnil, wPcons, wPar, wNext, wSeq, wRet, wRetO, wRetN, wIfS, wBrk, wCnt, wDrop, wFrz, wApp, wExt, wSetIx, wAugIx, wAug, wRnil, wRcons, wFn, wRaise, wWord, wRetH, wSetIxH, wCount, wIndex, wIsE, wListRg1, wListRg2, wYes, wIs, wIz, wIl, wIt, wIr1, wIr2, wSlS, wPop, wAppPop, R.wk, R.st, R.ar, R.bl, R.no, R.sq, R.slot, setsR, startR, List.map_cons, List.map_nil, List.cons_append, List.nil_append, List.length_cons, List.length_nil, List.replicate, List.getElem?_cons_zero, List.getElem?_cons_succ, Option.some.injEq, exists_eq_left', exists_eq_left, R.d.injEq, R.own.injEq, R.fr.injEq, List.set_cons_zero, List.set_cons_succ, addD, subD, mulDD, fdivD, modD, ltD, leD, gtD, geD, eqD, neD, isND, isnotND, inDD, notInDD, ixD, negD, lenD, absD, intD, min2D, max2D, listD, tupleD, slD, Nat.reduceAdd, Nat.reduceSub, Nat.add_zero, Nat.zero_add, true_and, and_true, ite_true, ite_false, if_true, if_false, Bool.false_eq_true, reduceIte, Option.some_inj, Bool.true_eq_false, tgW, tgWs, wipe3, List.set_nil, w_run_of, C_check_jugs])
  refine ⟨x, rfl, fun hx => ?_, h1⟩
  obtain ⟨js, rfl, _, hl, _⟩ := jugs_of hx
  obtain ⟨g1, g2⟩ := h2 js hx rfl
  (try simp only [sumDD, eqS, reprD, wV, wC, wNil, wCons, wTup, wLst, wOp, wUn, wCall, wT, wNot, wAnd, wOr, wB, wAndV, wOrV, wNotV, wIf, wIsi, wChain, wNo, wPart, wSl, wSet, wSetO, wTg, wPnil, wPcons, wPar, wNext, wSeq, wRet, wRetO, wRetN, wIfS, wBrk, wCnt, wDrop, wFrz, wApp, wExt, wSetIx, wAugIx, wAug, wRnil, wRcons, wFn, wRaise, wWord, wRetH, wSetIxH, wCount, wIndex, wIsE, wListRg1, wListRg2, wYes, wIs, wIz, wIl, wIt, wIr1, wIr2, wSlS, wPop, wAppPop, R.wk, R.st, R.ar, R.bl, R.no, R.sq, R.slot, setsR, startR, List.map_cons, List.map_nil, List.cons_append, List.nil_append, List.length_cons, List.length_nil, List.replicate, List.getElem?_cons_zero, List.getElem?_cons_succ, Option.some.injEq, exists_eq_left', exists_eq_left, R.d.injEq, R.own.injEq, R.fr.injEq, List.set_cons_zero, List.set_cons_succ, addD, subD, mulDD, fdivD, modD, ltD, leD, gtD, geD, eqD, neD, isND, isnotND, inDD, notInDD, ixD, negD, lenD, absD, intD, min2D, max2D, listD, tupleD, slD, Nat.reduceAdd, Nat.reduceSub, Nat.add_zero, Nat.zero_add, true_and, and_true, ite_true, ite_false, if_true, if_false, Bool.false_eq_true, reduceIte, Option.some_inj, Bool.true_eq_false, tgW, tgWs, wipe3, List.set_nil, C_are_deeds])
  refine ⟨js, y, rfl, hy, ?_⟩
  cases hd : deedsOk js.length y with
  | false =>
    (try simp only [sumDD, eqS, reprD, wV, wC, wNil, wCons, wTup, wLst, wOp, wUn, wCall, wT, wNot, wAnd, wOr, wB, wAndV, wOrV, wNotV, wIf, wIsi, wChain, wNo, wPart, wSl, wSet, wSetO, wTg, wPnil, wPcons, wPar, wNext, wSeq, wRet, wRetO, wRetN, wIfS, wBrk, wCnt, wDrop, wFrz, wApp, wExt, wSetIx, wAugIx, wAug, wRnil, wRcons, wFn, wRaise, wWord, wRetH, wSetIxH, wCount, wIndex, wIsE, wListRg1, wListRg2, wYes, wIs, wIz, wIl, wIt, wIr1, wIr2, wSlS, wPop, wAppPop, R.wk, R.st, R.ar, R.bl, R.no, R.sq, R.slot, setsR, startR, List.map_cons, List.map_nil, List.cons_append, List.nil_append, List.length_cons, List.length_nil, List.replicate, List.getElem?_cons_zero, List.getElem?_cons_succ, Option.some.injEq, exists_eq_left', exists_eq_left, R.d.injEq, R.own.injEq, R.fr.injEq, List.set_cons_zero, List.set_cons_succ, addD, subD, mulDD, fdivD, modD, ltD, leD, gtD, geD, eqD, neD, isND, isnotND, inDD, notInDD, ixD, negD, lenD, absD, intD, min2D, max2D, listD, tupleD, slD, Nat.reduceAdd, Nat.reduceSub, Nat.add_zero, Nat.zero_add, true_and, and_true, ite_true, ite_false, if_true, if_false, Bool.false_eq_true, reduceIte, Option.some_inj, Bool.true_eq_false, tgW, tgWs, wipe3, List.set_nil, Bool.not_false])
    exact g1 hd
  | true =>
    obtain ⟨ds, rfl, hn, ho⟩ := deeds_of hd
    (try simp only [sumDD, eqS, reprD, wV, wC, wNil, wCons, wTup, wLst, wOp, wUn, wCall, wT, wNot, wAnd, wOr, wB, wAndV, wOrV, wNotV, wIf, wIsi, wChain, wNo, wPart, wSl, wSet, wSetO, wTg, wPnil, wPcons, wPar, wNext, wSeq, wRet, wRetO, wRetN, wIfS, wBrk, wCnt, wDrop, wFrz, wApp, wExt, wSetIx, wAugIx, wAug, wRnil, wRcons, wFn, wRaise, wWord, wRetH, wSetIxH, wCount, wIndex, wIsE, wListRg1, wListRg2, wYes, wIs, wIz, wIl, wIt, wIr1, wIr2, wSlS, wPop, wAppPop, R.wk, R.st, R.ar, R.bl, R.no, R.sq, R.slot, setsR, startR, List.map_cons, List.map_nil, List.cons_append, List.nil_append, List.length_cons, List.length_nil, List.replicate, List.getElem?_cons_zero, List.getElem?_cons_succ, Option.some.injEq, exists_eq_left', exists_eq_left, R.d.injEq, R.own.injEq, R.fr.injEq, List.set_cons_zero, List.set_cons_succ, addD, subD, mulDD, fdivD, modD, ltD, leD, gtD, geD, eqD, neD, isND, isnotND, inDD, notInDD, ixD, negD, lenD, absD, intD, min2D, max2D, listD, tupleD, slD, Nat.reduceAdd, Nat.reduceSub, Nat.add_zero, Nat.zero_add, true_and, and_true, ite_true, ite_false, if_true, if_false, Bool.false_eq_true, reduceIte, Option.some_inj, Bool.true_eq_false, tgW, tgWs, wipe3, List.set_nil, Bool.not_true, C_raw_run])
    refine ⟨js, ds, rfl, hl, hn, ho, ?_⟩
    (try simp only [sumDD, eqS, reprD, wV, wC, wNil, wCons, wTup, wLst, wOp, wUn, wCall, wT, wNot, wAnd, wOr, wB, wAndV, wOrV, wNotV, wIf, wIsi, wChain, wNo, wPart, wSl, wSet, wSetO, wTg, wPnil, wPcons, wPar, wNext, wSeq, wRet, wRetO, wRetN, wIfS, wBrk, wCnt, wDrop, wFrz, wApp, wExt, wSetIx, wAugIx, wAug, wRnil, wRcons, wFn, wRaise, wWord, wRetH, wSetIxH, wCount, wIndex, wIsE, wListRg1, wListRg2, wYes, wIs, wIz, wIl, wIt, wIr1, wIr2, wSlS, wPop, wAppPop, R.wk, R.st, R.ar, R.bl, R.no, R.sq, R.slot, setsR, startR, List.map_cons, List.map_nil, List.cons_append, List.nil_append, List.length_cons, List.length_nil, List.replicate, List.getElem?_cons_zero, List.getElem?_cons_succ, Option.some.injEq, exists_eq_left', exists_eq_left, R.d.injEq, R.own.injEq, R.fr.injEq, List.set_cons_zero, List.set_cons_succ, addD, subD, mulDD, fdivD, modD, ltD, leD, gtD, geD, eqD, neD, isND, isnotND, inDD, notInDD, ixD, negD, lenD, absD, intD, min2D, max2D, listD, tupleD, slD, Nat.reduceAdd, Nat.reduceSub, Nat.add_zero, Nat.zero_add, true_and, and_true, ite_true, ite_false, if_true, if_false, Bool.false_eq_true, reduceIte, Option.some_inj, Bool.true_eq_false, tgW, tgWs, wipe3, List.set_nil])
    exact g2 ds rfl hd ho
theorem ok_run_of (D : Txt K mg base T) : Cal false P w K mg base T 5 "run_of" C_run_of :=
  cal_of (wb := w_run_of) D.d_run_of sc_run_of bi_run_of l_run_of (fun f cdv A outer s H E hp hr hgd => ess_cons (es_drop (ev_fnC (ok_check_jugs D) hr (by decide) (fun h => by cases h) rfl pass_cx (er_cons (ev_var (pv 0)) (er_nil)))) (ess_cons (es_if (et_not (et_val (ev_fnC (ok_are_deeds D) hr (by decide) (fun h => by cases h) rfl pass_cx (er_cons (ev_var (pv 0)) (er_cons (ev_var (pv 1)) (er_nil)))))) (ess_one (es_raiseE rfl (takes_of rfl rfl rfl rfl) D.x_NoDeeds rfl)) (ess_nil)) (ess_one (es_ret (ev_callTy cr_tuple rfl D.n_tuple bb_tuple (el_cons selW (ev_fnC (ok_raw_run D) hr (by decide) (fun h => by cases h) rfl pass_cx (er_cons (ev_var (pv 0)) (er_cons (ev_var (pv 1)) (er_nil)))) (el_nil))))))) p_run_of
/-! ### _law_hand -/
abbrev N_law_hand : List Str := ["script", "cell"]
theorem sc_law_hand : FnScope N_law_hand ["script"] (defScope s_law_hand) := ⟨rfl, rfl, rfl, by decide +kernel, rfl, by decide +kernel, by decide +kernel⟩
theorem bi_law_hand : BindsBy "_law_hand" s_law_hand ["script"] := fun _ _ _ _ _ _ us hl => match us, hl with | [_], _ => rfl
def w_law_hand : WS := wRet (wLst (wCons R.st (wLc (wIs (wSlS 0 wNo (wPart (wC (.int 63))))) (.one 1) wYes (wCall absD (wCons R.wk (wCall intD (wCons R.wk (wV 1) (wNil))) (wNil))) [1]) (wCons R.st (wC (.int 0)) (wCons R.st (wC (.int 0)) (wCons R.st (wOp addD (wC (.int 439)) (wOp mulDD (wC (.int 3)) (wCall lenD (wCons R.wk (wSlS 0 wNo (wPart (wC (.int 63)))) (wNil))))) (wCons R.st (wC (.int 0)) (wNil)))))))
abbrev L_hand : Nat := 4
theorem p_law_hand : ∀ (ns : List Int), ns.length ≤ 63 → w_law_hand { nx := fun _ => False, rt := fun r => ∃ ms js : List Int, r = .fr (.list (ms.map .int) :: js.map .int) ∧ js.length = L_hand ∧ ∀ j ∈ js, 0 ≤ j } (startR N_law_hand [.scr ns]) noX := by
  intro ns hn
  (try simp only [sumDD, eqS, reprD, wV, wC, wNil, wCons, wTup, wLst, wOp, wUn, wCall, wT, wNot, wAnd, wOr, wB, wAndV, wOrV, wNotV, wIf, wIsi, wChain, wNo, wPart, wSl, wSet, wSetO, wTg, wPnil, wPcons, wPar, wNext, wSeq, wRet, wRetO, wRetN, wIfS, wBrk, wCnt, wDrop, wFrz, wApp, wExt, wSetIx, wAugIx, wAug, wRnil, wRcons, wFn, wRaise, wWord, wRetH, wSetIxH, wCount, wIndex, wIsE, wListRg1, wListRg2, wYes, wIs, wIz, wIl, wIt, wIr1, wIr2, wSlS, wPop, wAppPop, R.wk, R.st, R.ar, R.bl, R.no, R.sq, R.slot, setsR, startR, List.map_cons, List.map_nil, List.cons_append, List.nil_append, List.length_cons, List.length_nil, List.replicate, List.getElem?_cons_zero, List.getElem?_cons_succ, Option.some.injEq, exists_eq_left', exists_eq_left, R.d.injEq, R.own.injEq, R.fr.injEq, List.set_cons_zero, List.set_cons_succ, addD, subD, mulDD, fdivD, modD, ltD, leD, gtD, geD, eqD, neD, isND, isnotND, inDD, notInDD, ixD, negD, lenD, absD, intD, min2D, max2D, listD, tupleD, slD, Nat.reduceAdd, Nat.reduceSub, Nat.add_zero, Nat.zero_add, true_and, and_true, ite_true, ite_false, if_true, if_false, Bool.false_eq_true, reduceIte, Option.some_inj, Bool.true_eq_false, tgW, tgWs, wipe3, List.set_nil, w_law_hand, wLc, R.scr.injEq])
  refine lc_map (fun x => match x with | .int i => .int (if i < 0 then -i else i) | _ => .none) _ (fun x hx k hk => ?_) ?_
  · obtain ⟨i, _, rfl⟩ := List.mem_map.mp hx
    (try simp only [sumDD, eqS, reprD, wV, wC, wNil, wCons, wTup, wLst, wOp, wUn, wCall, wT, wNot, wAnd, wOr, wB, wAndV, wOrV, wNotV, wIf, wIsi, wChain, wNo, wPart, wSl, wSet, wSetO, wTg, wPnil, wPcons, wPar, wNext, wSeq, wRet, wRetO, wRetN, wIfS, wBrk, wCnt, wDrop, wFrz, wApp, wExt, wSetIx, wAugIx, wAug, wRnil, wRcons, wFn, wRaise, wWord, wRetH, wSetIxH, wCount, wIndex, wIsE, wListRg1, wListRg2, wYes, wIs, wIz, wIl, wIt, wIr1, wIr2, wSlS, wPop, wAppPop, R.wk, R.st, R.ar, R.bl, R.no, R.sq, R.slot, setsR, startR, List.map_cons, List.map_nil, List.cons_append, List.nil_append, List.length_cons, List.length_nil, List.replicate, List.getElem?_cons_zero, List.getElem?_cons_succ, Option.some.injEq, exists_eq_left', exists_eq_left, R.d.injEq, R.own.injEq, R.fr.injEq, List.set_cons_zero, List.set_cons_succ, addD, subD, mulDD, fdivD, modD, ltD, leD, gtD, geD, eqD, neD, isND, isnotND, inDD, notInDD, ixD, negD, lenD, absD, intD, min2D, max2D, listD, tupleD, slD, Nat.reduceAdd, Nat.reduceSub, Nat.add_zero, Nat.zero_add, true_and, and_true, ite_true, ite_false, if_true, if_false, Bool.false_eq_true, reduceIte, Option.some_inj, Bool.true_eq_false, tgW, tgWs, wipe3, List.set_nil])
    exact hk
  · (try simp only [sumDD, eqS, reprD, wV, wC, wNil, wCons, wTup, wLst, wOp, wUn, wCall, wT, wNot, wAnd, wOr, wB, wAndV, wOrV, wNotV, wIf, wIsi, wChain, wNo, wPart, wSl, wSet, wSetO, wTg, wPnil, wPcons, wPar, wNext, wSeq, wRet, wRetO, wRetN, wIfS, wBrk, wCnt, wDrop, wFrz, wApp, wExt, wSetIx, wAugIx, wAug, wRnil, wRcons, wFn, wRaise, wWord, wRetH, wSetIxH, wCount, wIndex, wIsE, wListRg1, wListRg2, wYes, wIs, wIz, wIl, wIt, wIr1, wIr2, wSlS, wPop, wAppPop, R.wk, R.st, R.ar, R.bl, R.no, R.sq, R.slot, setsR, startR, List.map_cons, List.map_nil, List.cons_append, List.nil_append, List.length_cons, List.length_nil, List.replicate, List.getElem?_cons_zero, List.getElem?_cons_succ, Option.some.injEq, exists_eq_left', exists_eq_left, R.d.injEq, R.own.injEq, R.fr.injEq, List.set_cons_zero, List.set_cons_succ, addD, subD, mulDD, fdivD, modD, ltD, leD, gtD, geD, eqD, neD, isND, isnotND, inDD, notInDD, ixD, negD, lenD, absD, intD, min2D, max2D, listD, tupleD, slD, Nat.reduceAdd, Nat.reduceSub, Nat.add_zero, Nat.zero_add, true_and, and_true, ite_true, ite_false, if_true, if_false, Bool.false_eq_true, reduceIte, Option.some_inj, Bool.true_eq_false, tgW, tgWs, wipe3, List.set_nil])
    refine ⟨.inl (.inl ⟨by decide, by decide⟩), (cut ns none (some 63)).map (fun i => if i < 0 then -i else i), [0, 0, 439 + 3 * ((List.map PyData.int (cut ns none (some 63))).length : Int), 0], ?_, rfl, fun j hj => ?_⟩
    · simp only [List.map_map, List.map_cons, List.map_nil]
      rfl
    · simp at hj
      omega
theorem ok_law_hand (D : Txt K mg base T) : Cal false P w K mg base T 1 "_law_hand" (C_hand L_hand) :=
  cal_hand (wb := w_law_hand) L_hand (by decide) D.d_law_hand sc_law_hand bi_law_hand (fun f cdv A outer s H E hp hr => ess_one (es_ret (ev_lst (el_cons selS (ev_lc (own := [("cell", 1)]) (g := .one 1) rfl sc_law_hand.nd (ei_seq (ev_slS (pv 0) eo_no (eo_part (ev_int)))) (blkOk_by (N := N_law_hand) (sc := defScope s_law_hand) (by decide +kernel)) (by decide) (fun _ _ _ _ _ => pg_name (i := 1) sc_law_hand.nd rfl (Or.inl rfl)) (fun _ _ _ _ _ => eb_yes) (fun _ _ _ _ _ => ev_callB cr_abs rfl D.n_abs bb_abs (el_cons selW (ev_callTy cr_int rfl D.n_int bb_int (el_cons selW (ev_var (pv 1)) (el_nil))) (el_nil)))) (el_cons selS (ev_int) (el_cons selS (ev_int) (el_cons selS (ev_op op_addD (ev_int) (ev_op op_mulDD (ev_int) (ev_callB cr_len rfl D.n_len bb_len (el_cons selW (ev_slS (pv 0) eo_no (eo_part (ev_int))) (el_nil))))) (el_cons selS (ev_int) (el_nil))))))))) p_law_hand
abbrev C_law_hand : Ct := C_hand L_hand
/-! ### _law_draw -/
abbrev N_law_draw : List Str := ["hand", "many", "cell", "digit", "number"]
theorem sc_law_draw : FnScope N_law_draw ["hand", "many"] (defScope s_law_draw) := ⟨rfl, rfl, rfl, by decide +kernel, rfl, by decide +kernel, by decide +kernel⟩
theorem bi_law_draw : BindsBy "_law_draw" s_law_draw ["hand", "many"] := fun _ _ _ _ _ _ us hl => match us, hl with | [_, _], _ => rfl
def w_law_draw_6 : WS := wRetH (wOp modD (wCall intD (wCons R.wk (wOp fdivD (wV 4) (wC (.int 16))) (wNil))) (wV 1))
def w_law_draw_5 : WS := wSeq (wSet 4 (wOp modD (wCall intD (wCons R.wk (wOp mulDD (wV 4) (wOp addD (wOp fdivD (wV 4) (wC (.int 2003))) (wC (.int 40014)))) (wNil))) (wC (.int 2147483563)))) (w_law_draw_6)
def w_law_draw_4 : WS := wSeq (wSet 4 (wOp modD (wCall intD (wCons R.wk (wOp mulDD (wV 4) (wOp addD (wOp fdivD (wV 4) (wC (.int 1009))) (wC (.int 69621)))) (wNil))) (wC (.int 2147483647)))) (w_law_draw_5)
def w_law_draw_3 : WS := wSeq (wSet 4 (wOp modD (wCall intD (wCons R.wk (wOp mulDD (wCall intD (wCons R.wk (wOp addD (wOp ixD (wV 0) (wC (.int 3))) (wOp mulDD (wC (.int 7919)) (wOp ixD (wV 0) (wC (.int 4))))) (wNil))) (wC (.int 48271))) (wNil))) (wC (.int 2147483647)))) (w_law_draw_4)
def w_law_draw_2 : WS := wSeq (wSetIxH (wC (.int 4)) (wOp addD (wOp ixD (wV 0) (wC (.int 4))) (wC (.int 1)))) (w_law_draw_3)
def w_law_draw_1 : WS := wSeq (wIfS (wT (wOp gtD (wOp ixD (wV 0) (wC (.int 2))) (wC (.int 0)))) (wSeq (wSet 3 (wOp modD (wCall intD (wCons R.wk (wOp ixD (wV 0) (wC (.int 2))) (wNil))) (wV 1))) (wSeq (wSetIxH (wC (.int 2)) (wOp fdivD (wOp ixD (wV 0) (wC (.int 2))) (wV 1))) (wRetH (wV 3)))) (wNext)) (w_law_draw_2)
def w_law_draw : WS := wSeq (wIfS (wAnd (wT (wOp eqD (wOp ixD (wV 0) (wC (.int 2))) (wC (.int 0)))) (wT (wOp ltD (wOp ixD (wV 0) (wC (.int 1))) (wCall lenD (wCons R.wk (wOp ixD (wV 0) (wC (.int 0))) (wNil)))))) (wSeq (wSet 2 (wOp ixD (wOp ixD (wV 0) (wC (.int 0))) (wOp ixD (wV 0) (wC (.int 1))))) (wSeq (wSetIxH (wC (.int 1)) (wOp addD (wOp ixD (wV 0) (wC (.int 1))) (wC (.int 1)))) (wSeq (wSetIxH (wC (.int 3)) (wOp modD (wCall intD (wCons R.wk (wOp addD (wOp addD (wOp mulDD (wOp ixD (wV 0) (wC (.int 3))) (wC (.int 69621))) (wOp mulDD (wV 2) (wC (.int 40692)))) (wC (.int 397))) (wNil))) (wC (.int 2147483629)))) (wIfS (wT (wOp geD (wV 2) (wOp powD (wC (.int 10)) (wC (.int 18))))) (wSetIxH (wC (.int 2)) (wV 2)) (wNext))))) (wNext)) (w_law_draw_1)
def drawD (ns : List Int) (m : Int) : End3 := { nx := fun _ => False, rt := fun r => ∃ n : Int, r = .d (.int n) ∧ 0 ≤ n ∧ n < m, bk := fun ρ => ∃ js : List Int, js.length = L_hand ∧ (∀ i ∈ js, 0 ≤ i) ∧ ρ[0]? = some (some (.own (.list (ns.map .int) :: js.map .int))) }
theorem small_mul {i j : Int} (h : -(2 ^ 64) < i ∧ i < 2 ^ 64) : CMul i j ∨ CMulW i j := .inl (.inl h)
theorem small_mul2 {i j : Int} (h : -(2 ^ 64) < j ∧ j < 2 ^ 64) : CMul i j ∨ CMulW i j := .inl (.inr h)
theorem mod_fits {i m : Int} (h : 0 < m) (h2 : m < 2 ^ 64) : -(2 ^ 64) < i % m ∧ i % m < 2 ^ 64 := by
  have a := Int.emod_nonneg i (show m ≠ 0 by omega)
  have b := Int.emod_lt_of_pos i h
  omega
theorem small_div {i j : Int} (h : 0 < j) (h2 : j < 1073741824) : CDiv i j ∨ CDivW i j := .inl ⟨h, h2⟩
abbrev handL (ns : List Int) (i1 i2 i3 i4 : Int) : R := .own [.list (ns.map .int), .int i1, .int i2, .int i3, .int i4]
theorem draw_bk {ns : List Int} {m i1 i2 i3 i4 : Int} {r : Env3} (h : 0 ≤ i1 ∧ 0 ≤ i2 ∧ 0 ≤ i3 ∧ 0 ≤ i4) : (drawD ns m).bk (some (handL ns i1 i2 i3 i4) :: r) :=
  ⟨[i1, i2, i3, i4], rfl, fun i hi => by simp at hi; omega, rfl⟩
theorem ix5_1 : ixN 5 1 = some 1 := by decide
theorem ix5_2 : ixN 5 2 = some 2 := by decide
theorem ix5_3 : ixN 5 3 = some 3 := by decide
theorem ix5_4 : ixN 5 4 = some 4 := by decide
theorem p_draw_2 {ns : List Int} {m i1 i2 i3 i4 : Int} {c d n : Option R} (h : 0 ≤ i1 ∧ 0 ≤ i2 ∧ 0 ≤ i3 ∧ 0 ≤ i4) (m0 : 0 < m) (m1 : m < 1073741824) :
    w_law_draw_2 (drawD ns m) [some (handL ns i1 i2 i3 i4), some (.d (.int m)), c, d, n] noX := by
  (try simp only [sumDD, eqS, reprD, wV, wC, wNil, wCons, wTup, wLst, wOp, wUn, wCall, wT, wNot, wAnd, wOr, wB, wAndV, wOrV, wNotV, wIf, wIsi, wChain, wNo, wPart, wSl, wSet, wSetO, wTg, wPnil, wPcons, wPar, wNext, wSeq, wRet, wRetO, wRetN, wIfS, wBrk, wCnt, wDrop, wFrz, wApp, wExt, wSetIx, wAugIx, wAug, wRnil, wRcons, wFn, wRaise, wWord, wRetH, wSetIxH, wCount, wIndex, wIsE, wListRg1, wListRg2, wYes, wIs, wIz, wIl, wIt, wIr1, wIr2, wSlS, wPop, wAppPop, R.wk, R.st, R.ar, R.bl, R.no, R.sq, R.slot, setsR, startR, List.map_cons, List.map_nil, List.cons_append, List.nil_append, List.length_cons, List.length_nil, List.replicate, List.getElem?_cons_zero, List.getElem?_cons_succ, Option.some.injEq, exists_eq_left', exists_eq_left, R.d.injEq, R.own.injEq, R.fr.injEq, List.set_cons_zero, List.set_cons_succ, addD, subD, mulDD, fdivD, modD, ltD, leD, gtD, geD, eqD, neD, isND, isnotND, inDD, notInDD, ixD, negD, lenD, absD, intD, min2D, max2D, listD, tupleD, slD, Nat.reduceAdd, Nat.reduceSub, Nat.add_zero, Nat.zero_add, true_and, and_true, ite_true, ite_false, if_true, if_false, Bool.false_eq_true, reduceIte, Option.some_inj, Bool.true_eq_false, tgW, tgWs, wipe3, List.set_nil, w_law_draw_2, at0, at1, at2, at3, at4, handL])
  refine ⟨3, ix5_4, ?_⟩
  (try simp only [sumDD, eqS, reprD, wV, wC, wNil, wCons, wTup, wLst, wOp, wUn, wCall, wT, wNot, wAnd, wOr, wB, wAndV, wOrV, wNotV, wIf, wIsi, wChain, wNo, wPart, wSl, wSet, wSetO, wTg, wPnil, wPcons, wPar, wNext, wSeq, wRet, wRetO, wRetN, wIfS, wBrk, wCnt, wDrop, wFrz, wApp, wExt, wSetIx, wAugIx, wAug, wRnil, wRcons, wFn, wRaise, wWord, wRetH, wSetIxH, wCount, wIndex, wIsE, wListRg1, wListRg2, wYes, wIs, wIz, wIl, wIt, wIr1, wIr2, wSlS, wPop, wAppPop, R.wk, R.st, R.ar, R.bl, R.no, R.sq, R.slot, setsR, startR, List.map_cons, List.map_nil, List.cons_append, List.nil_append, List.length_cons, List.length_nil, List.replicate, List.getElem?_cons_zero, List.getElem?_cons_succ, Option.some.injEq, exists_eq_left', exists_eq_left, R.d.injEq, R.own.injEq, R.fr.injEq, List.set_cons_zero, List.set_cons_succ, addD, subD, mulDD, fdivD, modD, ltD, leD, gtD, geD, eqD, neD, isND, isnotND, inDD, notInDD, ixD, negD, lenD, absD, intD, min2D, max2D, listD, tupleD, slD, Nat.reduceAdd, Nat.reduceSub, Nat.add_zero, Nat.zero_add, true_and, and_true, ite_true, ite_false, if_true, if_false, Bool.false_eq_true, reduceIte, Option.some_inj, Bool.true_eq_false, tgW, tgWs, wipe3, List.set_nil, w_law_draw_3, at0, at1, at2, at3, at4])
  refine ⟨small_mul (by decide), small_mul2 (by decide), by decide, ?_⟩
  generalize (i3 + 7919 * (i4 + 1)) * 48271 = a
  (try simp only [sumDD, eqS, reprD, wV, wC, wNil, wCons, wTup, wLst, wOp, wUn, wCall, wT, wNot, wAnd, wOr, wB, wAndV, wOrV, wNotV, wIf, wIsi, wChain, wNo, wPart, wSl, wSet, wSetO, wTg, wPnil, wPcons, wPar, wNext, wSeq, wRet, wRetO, wRetN, wIfS, wBrk, wCnt, wDrop, wFrz, wApp, wExt, wSetIx, wAugIx, wAug, wRnil, wRcons, wFn, wRaise, wWord, wRetH, wSetIxH, wCount, wIndex, wIsE, wListRg1, wListRg2, wYes, wIs, wIz, wIl, wIt, wIr1, wIr2, wSlS, wPop, wAppPop, R.wk, R.st, R.ar, R.bl, R.no, R.sq, R.slot, setsR, startR, List.map_cons, List.map_nil, List.cons_append, List.nil_append, List.length_cons, List.length_nil, List.replicate, List.getElem?_cons_zero, List.getElem?_cons_succ, Option.some.injEq, exists_eq_left', exists_eq_left, R.d.injEq, R.own.injEq, R.fr.injEq, List.set_cons_zero, List.set_cons_succ, addD, subD, mulDD, fdivD, modD, ltD, leD, gtD, geD, eqD, neD, isND, isnotND, inDD, notInDD, ixD, negD, lenD, absD, intD, min2D, max2D, listD, tupleD, slD, Nat.reduceAdd, Nat.reduceSub, Nat.add_zero, Nat.zero_add, true_and, and_true, ite_true, ite_false, if_true, if_false, Bool.false_eq_true, reduceIte, Option.some_inj, Bool.true_eq_false, tgW, tgWs, wipe3, List.set_nil, w_law_draw_4])
  refine ⟨small_div (by decide) (by decide), small_mul (mod_fits (by decide) (by decide)), by decide, ?_⟩
  generalize a % 2147483647 * (a % 2147483647 / 1009 + 69621) = b
  (try simp only [sumDD, eqS, reprD, wV, wC, wNil, wCons, wTup, wLst, wOp, wUn, wCall, wT, wNot, wAnd, wOr, wB, wAndV, wOrV, wNotV, wIf, wIsi, wChain, wNo, wPart, wSl, wSet, wSetO, wTg, wPnil, wPcons, wPar, wNext, wSeq, wRet, wRetO, wRetN, wIfS, wBrk, wCnt, wDrop, wFrz, wApp, wExt, wSetIx, wAugIx, wAug, wRnil, wRcons, wFn, wRaise, wWord, wRetH, wSetIxH, wCount, wIndex, wIsE, wListRg1, wListRg2, wYes, wIs, wIz, wIl, wIt, wIr1, wIr2, wSlS, wPop, wAppPop, R.wk, R.st, R.ar, R.bl, R.no, R.sq, R.slot, setsR, startR, List.map_cons, List.map_nil, List.cons_append, List.nil_append, List.length_cons, List.length_nil, List.replicate, List.getElem?_cons_zero, List.getElem?_cons_succ, Option.some.injEq, exists_eq_left', exists_eq_left, R.d.injEq, R.own.injEq, R.fr.injEq, List.set_cons_zero, List.set_cons_succ, addD, subD, mulDD, fdivD, modD, ltD, leD, gtD, geD, eqD, neD, isND, isnotND, inDD, notInDD, ixD, negD, lenD, absD, intD, min2D, max2D, listD, tupleD, slD, Nat.reduceAdd, Nat.reduceSub, Nat.add_zero, Nat.zero_add, true_and, and_true, ite_true, ite_false, if_true, if_false, Bool.false_eq_true, reduceIte, Option.some_inj, Bool.true_eq_false, tgW, tgWs, wipe3, List.set_nil, w_law_draw_5])
  refine ⟨small_div (by decide) (by decide), small_mul (mod_fits (by decide) (by decide)), by decide, ?_⟩
  generalize b % 2147483647 * (b % 2147483647 / 2003 + 40014) = e
  (try simp only [sumDD, eqS, reprD, wV, wC, wNil, wCons, wTup, wLst, wOp, wUn, wCall, wT, wNot, wAnd, wOr, wB, wAndV, wOrV, wNotV, wIf, wIsi, wChain, wNo, wPart, wSl, wSet, wSetO, wTg, wPnil, wPcons, wPar, wNext, wSeq, wRet, wRetO, wRetN, wIfS, wBrk, wCnt, wDrop, wFrz, wApp, wExt, wSetIx, wAugIx, wAug, wRnil, wRcons, wFn, wRaise, wWord, wRetH, wSetIxH, wCount, wIndex, wIsE, wListRg1, wListRg2, wYes, wIs, wIz, wIl, wIt, wIr1, wIr2, wSlS, wPop, wAppPop, R.wk, R.st, R.ar, R.bl, R.no, R.sq, R.slot, setsR, startR, List.map_cons, List.map_nil, List.cons_append, List.nil_append, List.length_cons, List.length_nil, List.replicate, List.getElem?_cons_zero, List.getElem?_cons_succ, Option.some.injEq, exists_eq_left', exists_eq_left, R.d.injEq, R.own.injEq, R.fr.injEq, List.set_cons_zero, List.set_cons_succ, addD, subD, mulDD, fdivD, modD, ltD, leD, gtD, geD, eqD, neD, isND, isnotND, inDD, notInDD, ixD, negD, lenD, absD, intD, min2D, max2D, listD, tupleD, slD, Nat.reduceAdd, Nat.reduceSub, Nat.add_zero, Nat.zero_add, true_and, and_true, ite_true, ite_false, if_true, if_false, Bool.false_eq_true, reduceIte, Option.some_inj, Bool.true_eq_false, tgW, tgWs, wipe3, List.set_nil, w_law_draw_6])
  refine ⟨small_div (by decide) (by decide), m0, ⟨_, rfl, Int.emod_nonneg _ (by omega), Int.emod_lt_of_pos _ m0⟩, draw_bk ⟨h.1, h.2.1, h.2.2.1, by omega⟩⟩
theorem p_draw_1 {ns : List Int} {m i1 i2 i3 i4 : Int} {c : Option R} (h : 0 ≤ i1 ∧ 0 ≤ i2 ∧ 0 ≤ i3 ∧ 0 ≤ i4) (m0 : 0 < m) (m1 : m < 1073741824) :
    w_law_draw_1 (drawD ns m) [some (handL ns i1 i2 i3 i4), some (.d (.int m)), c, none, none] noX := by
  (try simp only [sumDD, eqS, reprD, wV, wC, wNil, wCons, wTup, wLst, wOp, wUn, wCall, wT, wNot, wAnd, wOr, wB, wAndV, wOrV, wNotV, wIf, wIsi, wChain, wNo, wPart, wSl, wSet, wSetO, wTg, wPnil, wPcons, wPar, wNext, wSeq, wRet, wRetO, wRetN, wIfS, wBrk, wCnt, wDrop, wFrz, wApp, wExt, wSetIx, wAugIx, wAug, wRnil, wRcons, wFn, wRaise, wWord, wRetH, wSetIxH, wCount, wIndex, wIsE, wListRg1, wListRg2, wYes, wIs, wIz, wIl, wIt, wIr1, wIr2, wSlS, wPop, wAppPop, R.wk, R.st, R.ar, R.bl, R.no, R.sq, R.slot, setsR, startR, List.map_cons, List.map_nil, List.cons_append, List.nil_append, List.length_cons, List.length_nil, List.replicate, List.getElem?_cons_zero, List.getElem?_cons_succ, Option.some.injEq, exists_eq_left', exists_eq_left, R.d.injEq, R.own.injEq, R.fr.injEq, List.set_cons_zero, List.set_cons_succ, addD, subD, mulDD, fdivD, modD, ltD, leD, gtD, geD, eqD, neD, isND, isnotND, inDD, notInDD, ixD, negD, lenD, absD, intD, min2D, max2D, listD, tupleD, slD, Nat.reduceAdd, Nat.reduceSub, Nat.add_zero, Nat.zero_add, true_and, and_true, ite_true, ite_false, if_true, if_false, Bool.false_eq_true, reduceIte, Option.some_inj, Bool.true_eq_false, tgW, tgWs, wipe3, List.set_nil, w_law_draw_1, at0, at1, at2, at3, at4, handL])
  by_cases c1 : 0 < i2
  · (try simp only [sumDD, eqS, reprD, wV, wC, wNil, wCons, wTup, wLst, wOp, wUn, wCall, wT, wNot, wAnd, wOr, wB, wAndV, wOrV, wNotV, wIf, wIsi, wChain, wNo, wPart, wSl, wSet, wSetO, wTg, wPnil, wPcons, wPar, wNext, wSeq, wRet, wRetO, wRetN, wIfS, wBrk, wCnt, wDrop, wFrz, wApp, wExt, wSetIx, wAugIx, wAug, wRnil, wRcons, wFn, wRaise, wWord, wRetH, wSetIxH, wCount, wIndex, wIsE, wListRg1, wListRg2, wYes, wIs, wIz, wIl, wIt, wIr1, wIr2, wSlS, wPop, wAppPop, R.wk, R.st, R.ar, R.bl, R.no, R.sq, R.slot, setsR, startR, List.map_cons, List.map_nil, List.cons_append, List.nil_append, List.length_cons, List.length_nil, List.replicate, List.getElem?_cons_zero, List.getElem?_cons_succ, Option.some.injEq, exists_eq_left', exists_eq_left, R.d.injEq, R.own.injEq, R.fr.injEq, List.set_cons_zero, List.set_cons_succ, addD, subD, mulDD, fdivD, modD, ltD, leD, gtD, geD, eqD, neD, isND, isnotND, inDD, notInDD, ixD, negD, lenD, absD, intD, min2D, max2D, listD, tupleD, slD, Nat.reduceAdd, Nat.reduceSub, Nat.add_zero, Nat.zero_add, true_and, and_true, ite_true, ite_false, if_true, if_false, Bool.false_eq_true, reduceIte, Option.some_inj, Bool.true_eq_false, tgW, tgWs, wipe3, List.set_nil, c1, decide_true])
    refine ⟨m0, small_div m0 m1, 1, ix5_2, ⟨_, rfl, Int.emod_nonneg _ (by omega), Int.emod_lt_of_pos _ m0⟩, ?_⟩
    exact draw_bk ⟨h.1, Int.ediv_nonneg (by omega) (by omega), h.2.2⟩
  · (try simp only [sumDD, eqS, reprD, wV, wC, wNil, wCons, wTup, wLst, wOp, wUn, wCall, wT, wNot, wAnd, wOr, wB, wAndV, wOrV, wNotV, wIf, wIsi, wChain, wNo, wPart, wSl, wSet, wSetO, wTg, wPnil, wPcons, wPar, wNext, wSeq, wRet, wRetO, wRetN, wIfS, wBrk, wCnt, wDrop, wFrz, wApp, wExt, wSetIx, wAugIx, wAug, wRnil, wRcons, wFn, wRaise, wWord, wRetH, wSetIxH, wCount, wIndex, wIsE, wListRg1, wListRg2, wYes, wIs, wIz, wIl, wIt, wIr1, wIr2, wSlS, wPop, wAppPop, R.wk, R.st, R.ar, R.bl, R.no, R.sq, R.slot, setsR, startR, List.map_cons, List.map_nil, List.cons_append, List.nil_append, List.length_cons, List.length_nil, List.replicate, List.getElem?_cons_zero, List.getElem?_cons_succ, Option.some.injEq, exists_eq_left', exists_eq_left, R.d.injEq, R.own.injEq, R.fr.injEq, List.set_cons_zero, List.set_cons_succ, addD, subD, mulDD, fdivD, modD, ltD, leD, gtD, geD, eqD, neD, isND, isnotND, inDD, notInDD, ixD, negD, lenD, absD, intD, min2D, max2D, listD, tupleD, slD, Nat.reduceAdd, Nat.reduceSub, Nat.add_zero, Nat.zero_add, true_and, and_true, ite_true, ite_false, if_true, if_false, Bool.false_eq_true, reduceIte, Option.some_inj, Bool.true_eq_false, tgW, tgWs, wipe3, List.set_nil, c1, decide_false])
    exact p_draw_2 h m0 m1
theorem p_law_draw : ∀ (ns is : List Int) (m : Int), is.length = L_hand → (∀ i ∈ is, 0 ≤ i) → 0 < m → m < 1073741824 → w_law_draw (drawD ns m) (drawR N_law_draw ns is m) noX := by
  intro ns is m hl h0 m0 m1
  match is, hl with
  | [i1, i2, i3, i4], _ =>
    have h : 0 ≤ i1 ∧ 0 ≤ i2 ∧ 0 ≤ i3 ∧ 0 ≤ i4 := ⟨h0 i1 (by simp), h0 i2 (by simp), h0 i3 (by simp), h0 i4 (by simp)⟩
    show w_law_draw (drawD ns m) [some (handL ns i1 i2 i3 i4), some (.d (.int m)), none, none, none] noX
    (try simp only [sumDD, eqS, reprD, wV, wC, wNil, wCons, wTup, wLst, wOp, wUn, wCall, wT, wNot, wAnd, wOr, wB, wAndV, wOrV, wNotV, wIf, wIsi, wChain, wNo, wPart, wSl, wSet, wSetO, wTg, wPnil, wPcons, wPar, wNext, wSeq, wRet, wRetO, wRetN, wIfS, wBrk, wCnt, wDrop, wFrz, wApp, wExt, wSetIx, wAugIx, wAug, wRnil, wRcons, wFn, wRaise, wWord, wRetH, wSetIxH, wCount, wIndex, wIsE, wListRg1, wListRg2, wYes, wIs, wIz, wIl, wIt, wIr1, wIr2, wSlS, wPop, wAppPop, R.wk, R.st, R.ar, R.bl, R.no, R.sq, R.slot, setsR, startR, List.map_cons, List.map_nil, List.cons_append, List.nil_append, List.length_cons, List.length_nil, List.replicate, List.getElem?_cons_zero, List.getElem?_cons_succ, Option.some.injEq, exists_eq_left', exists_eq_left, R.d.injEq, R.own.injEq, R.fr.injEq, List.set_cons_zero, List.set_cons_succ, addD, subD, mulDD, fdivD, modD, ltD, leD, gtD, geD, eqD, neD, isND, isnotND, inDD, notInDD, ixD, negD, lenD, absD, intD, min2D, max2D, listD, tupleD, slD, Nat.reduceAdd, Nat.reduceSub, Nat.add_zero, Nat.zero_add, true_and, and_true, ite_true, ite_false, if_true, if_false, Bool.false_eq_true, reduceIte, Option.some_inj, Bool.true_eq_false, tgW, tgWs, wipe3, List.set_nil, w_law_draw, at0, at1, at2, at3, at4, handL, eqv_ii, sh_i])
    by_cases c1 : i2 = 0
    · (try simp only [sumDD, eqS, reprD, wV, wC, wNil, wCons, wTup, wLst, wOp, wUn, wCall, wT, wNot, wAnd, wOr, wB, wAndV, wOrV, wNotV, wIf, wIsi, wChain, wNo, wPart, wSl, wSet, wSetO, wTg, wPnil, wPcons, wPar, wNext, wSeq, wRet, wRetO, wRetN, wIfS, wBrk, wCnt, wDrop, wFrz, wApp, wExt, wSetIx, wAugIx, wAug, wRnil, wRcons, wFn, wRaise, wWord, wRetH, wSetIxH, wCount, wIndex, wIsE, wListRg1, wListRg2, wYes, wIs, wIz, wIl, wIt, wIr1, wIr2, wSlS, wPop, wAppPop, R.wk, R.st, R.ar, R.bl, R.no, R.sq, R.slot, setsR, startR, List.map_cons, List.map_nil, List.cons_append, List.nil_append, List.length_cons, List.length_nil, List.replicate, List.getElem?_cons_zero, List.getElem?_cons_succ, Option.some.injEq, exists_eq_left', exists_eq_left, R.d.injEq, R.own.injEq, R.fr.injEq, List.set_cons_zero, List.set_cons_succ, addD, subD, mulDD, fdivD, modD, ltD, leD, gtD, geD, eqD, neD, isND, isnotND, inDD, notInDD, ixD, negD, lenD, absD, intD, min2D, max2D, listD, tupleD, slD, Nat.reduceAdd, Nat.reduceSub, Nat.add_zero, Nat.zero_add, true_and, and_true, ite_true, ite_false, if_true, if_false, Bool.false_eq_true, reduceIte, Option.some_inj, Bool.true_eq_false, tgW, tgWs, wipe3, List.set_nil, c1, decide_true])
      by_cases c2 : i1 < ((ns.map PyData.int).length : Int)
      · (try simp only [sumDD, eqS, reprD, wV, wC, wNil, wCons, wTup, wLst, wOp, wUn, wCall, wT, wNot, wAnd, wOr, wB, wAndV, wOrV, wNotV, wIf, wIsi, wChain, wNo, wPart, wSl, wSet, wSetO, wTg, wPnil, wPcons, wPar, wNext, wSeq, wRet, wRetO, wRetN, wIfS, wBrk, wCnt, wDrop, wFrz, wApp, wExt, wSetIx, wAugIx, wAug, wRnil, wRcons, wFn, wRaise, wWord, wRetH, wSetIxH, wCount, wIndex, wIsE, wListRg1, wListRg2, wYes, wIs, wIz, wIl, wIt, wIr1, wIr2, wSlS, wPop, wAppPop, R.wk, R.st, R.ar, R.bl, R.no, R.sq, R.slot, setsR, startR, List.map_cons, List.map_nil, List.cons_append, List.nil_append, List.length_cons, List.length_nil, List.replicate, List.getElem?_cons_zero, List.getElem?_cons_succ, Option.some.injEq, exists_eq_left', exists_eq_left, R.d.injEq, R.own.injEq, R.fr.injEq, List.set_cons_zero, List.set_cons_succ, addD, subD, mulDD, fdivD, modD, ltD, leD, gtD, geD, eqD, neD, isND, isnotND, inDD, notInDD, ixD, negD, lenD, absD, intD, min2D, max2D, listD, tupleD, slD, Nat.reduceAdd, Nat.reduceSub, Nat.add_zero, Nat.zero_add, true_and, and_true, ite_true, ite_false, if_true, if_false, Bool.false_eq_true, reduceIte, Option.some_inj, Bool.true_eq_false, tgW, tgWs, wipe3, List.set_nil, c2, decide_true])
        have hi : i1.toNat < ns.length := by
          rw [List.length_map] at c2
          omega
        have ea : atI (ns.map PyData.int) i1 = some (.int (ns.getD i1.toNat 0)) := by
          have z := at_map (ns := ns) hi
          rw [Int.toNat_of_nonneg h.1] at z
          exact z
        refine ⟨_, ea, 0, ix5_1, ?_⟩
        (try simp only [sumDD, eqS, reprD, wV, wC, wNil, wCons, wTup, wLst, wOp, wUn, wCall, wT, wNot, wAnd, wOr, wB, wAndV, wOrV, wNotV, wIf, wIsi, wChain, wNo, wPart, wSl, wSet, wSetO, wTg, wPnil, wPcons, wPar, wNext, wSeq, wRet, wRetO, wRetN, wIfS, wBrk, wCnt, wDrop, wFrz, wApp, wExt, wSetIx, wAugIx, wAug, wRnil, wRcons, wFn, wRaise, wWord, wRetH, wSetIxH, wCount, wIndex, wIsE, wListRg1, wListRg2, wYes, wIs, wIz, wIl, wIt, wIr1, wIr2, wSlS, wPop, wAppPop, R.wk, R.st, R.ar, R.bl, R.no, R.sq, R.slot, setsR, startR, List.map_cons, List.map_nil, List.cons_append, List.nil_append, List.length_cons, List.length_nil, List.replicate, List.getElem?_cons_zero, List.getElem?_cons_succ, Option.some.injEq, exists_eq_left', exists_eq_left, R.d.injEq, R.own.injEq, R.fr.injEq, List.set_cons_zero, List.set_cons_succ, addD, subD, mulDD, fdivD, modD, ltD, leD, gtD, geD, eqD, neD, isND, isnotND, inDD, notInDD, ixD, negD, lenD, absD, intD, min2D, max2D, listD, tupleD, slD, Nat.reduceAdd, Nat.reduceSub, Nat.add_zero, Nat.zero_add, true_and, and_true, ite_true, ite_false, if_true, if_false, Bool.false_eq_true, reduceIte, Option.some_inj, Bool.true_eq_false, tgW, tgWs, wipe3, List.set_nil, at3, powD])
        refine ⟨small_mul2 (by decide), small_mul2 (by decide), by decide, 2, ix5_3, ⟨by decide, by decide, by decide⟩, ?_⟩
        have e3 := Int.emod_nonneg (i3 * 69621 + ns.getD i1.toNat 0 * 40692 + 397) (show (2147483629 : Int) ≠ 0 by decide)
        by_cases c3 : (10 : Int) ^ (18 : Int).toNat ≤ ns.getD i1.toNat 0
        · (try simp only [sumDD, eqS, reprD, wV, wC, wNil, wCons, wTup, wLst, wOp, wUn, wCall, wT, wNot, wAnd, wOr, wB, wAndV, wOrV, wNotV, wIf, wIsi, wChain, wNo, wPart, wSl, wSet, wSetO, wTg, wPnil, wPcons, wPar, wNext, wSeq, wRet, wRetO, wRetN, wIfS, wBrk, wCnt, wDrop, wFrz, wApp, wExt, wSetIx, wAugIx, wAug, wRnil, wRcons, wFn, wRaise, wWord, wRetH, wSetIxH, wCount, wIndex, wIsE, wListRg1, wListRg2, wYes, wIs, wIz, wIl, wIt, wIr1, wIr2, wSlS, wPop, wAppPop, R.wk, R.st, R.ar, R.bl, R.no, R.sq, R.slot, setsR, startR, List.map_cons, List.map_nil, List.cons_append, List.nil_append, List.length_cons, List.length_nil, List.replicate, List.getElem?_cons_zero, List.getElem?_cons_succ, Option.some.injEq, exists_eq_left', exists_eq_left, R.d.injEq, R.own.injEq, R.fr.injEq, List.set_cons_zero, List.set_cons_succ, addD, subD, mulDD, fdivD, modD, ltD, leD, gtD, geD, eqD, neD, isND, isnotND, inDD, notInDD, ixD, negD, lenD, absD, intD, min2D, max2D, listD, tupleD, slD, Nat.reduceAdd, Nat.reduceSub, Nat.add_zero, Nat.zero_add, true_and, and_true, ite_true, ite_false, if_true, if_false, Bool.false_eq_true, reduceIte, Option.some_inj, Bool.true_eq_false, tgW, tgWs, wipe3, List.set_nil, c3, decide_true])
          refine ⟨1, ix5_2, ?_⟩
          have c4 : 0 ≤ ns.getD i1.toNat 0 := Int.le_trans (by decide) c3
          exact p_draw_1 ⟨by omega, c4, e3, h.2.2.2⟩ m0 m1
        · (try simp only [sumDD, eqS, reprD, wV, wC, wNil, wCons, wTup, wLst, wOp, wUn, wCall, wT, wNot, wAnd, wOr, wB, wAndV, wOrV, wNotV, wIf, wIsi, wChain, wNo, wPart, wSl, wSet, wSetO, wTg, wPnil, wPcons, wPar, wNext, wSeq, wRet, wRetO, wRetN, wIfS, wBrk, wCnt, wDrop, wFrz, wApp, wExt, wSetIx, wAugIx, wAug, wRnil, wRcons, wFn, wRaise, wWord, wRetH, wSetIxH, wCount, wIndex, wIsE, wListRg1, wListRg2, wYes, wIs, wIz, wIl, wIt, wIr1, wIr2, wSlS, wPop, wAppPop, R.wk, R.st, R.ar, R.bl, R.no, R.sq, R.slot, setsR, startR, List.map_cons, List.map_nil, List.cons_append, List.nil_append, List.length_cons, List.length_nil, List.replicate, List.getElem?_cons_zero, List.getElem?_cons_succ, Option.some.injEq, exists_eq_left', exists_eq_left, R.d.injEq, R.own.injEq, R.fr.injEq, List.set_cons_zero, List.set_cons_succ, addD, subD, mulDD, fdivD, modD, ltD, leD, gtD, geD, eqD, neD, isND, isnotND, inDD, notInDD, ixD, negD, lenD, absD, intD, min2D, max2D, listD, tupleD, slD, Nat.reduceAdd, Nat.reduceSub, Nat.add_zero, Nat.zero_add, true_and, and_true, ite_true, ite_false, if_true, if_false, Bool.false_eq_true, reduceIte, Option.some_inj, Bool.true_eq_false, tgW, tgWs, wipe3, List.set_nil, c3, decide_false])
          exact p_draw_1 ⟨by omega, by omega, e3, h.2.2.2⟩ m0 m1
      · (try simp only [sumDD, eqS, reprD, wV, wC, wNil, wCons, wTup, wLst, wOp, wUn, wCall, wT, wNot, wAnd, wOr, wB, wAndV, wOrV, wNotV, wIf, wIsi, wChain, wNo, wPart, wSl, wSet, wSetO, wTg, wPnil, wPcons, wPar, wNext, wSeq, wRet, wRetO, wRetN, wIfS, wBrk, wCnt, wDrop, wFrz, wApp, wExt, wSetIx, wAugIx, wAug, wRnil, wRcons, wFn, wRaise, wWord, wRetH, wSetIxH, wCount, wIndex, wIsE, wListRg1, wListRg2, wYes, wIs, wIz, wIl, wIt, wIr1, wIr2, wSlS, wPop, wAppPop, R.wk, R.st, R.ar, R.bl, R.no, R.sq, R.slot, setsR, startR, List.map_cons, List.map_nil, List.cons_append, List.nil_append, List.length_cons, List.length_nil, List.replicate, List.getElem?_cons_zero, List.getElem?_cons_succ, Option.some.injEq, exists_eq_left', exists_eq_left, R.d.injEq, R.own.injEq, R.fr.injEq, List.set_cons_zero, List.set_cons_succ, addD, subD, mulDD, fdivD, modD, ltD, leD, gtD, geD, eqD, neD, isND, isnotND, inDD, notInDD, ixD, negD, lenD, absD, intD, min2D, max2D, listD, tupleD, slD, Nat.reduceAdd, Nat.reduceSub, Nat.add_zero, Nat.zero_add, true_and, and_true, ite_true, ite_false, if_true, if_false, Bool.false_eq_true, reduceIte, Option.some_inj, Bool.true_eq_false, tgW, tgWs, wipe3, List.set_nil, c2, decide_false])
        exact p_draw_1 ⟨h.1, by omega, h.2.2⟩ m0 m1
    · (try simp only [sumDD, eqS, reprD, wV, wC, wNil, wCons, wTup, wLst, wOp, wUn, wCall, wT, wNot, wAnd, wOr, wB, wAndV, wOrV, wNotV, wIf, wIsi, wChain, wNo, wPart, wSl, wSet, wSetO, wTg, wPnil, wPcons, wPar, wNext, wSeq, wRet, wRetO, wRetN, wIfS, wBrk, wCnt, wDrop, wFrz, wApp, wExt, wSetIx, wAugIx, wAug, wRnil, wRcons, wFn, wRaise, wWord, wRetH, wSetIxH, wCount, wIndex, wIsE, wListRg1, wListRg2, wYes, wIs, wIz, wIl, wIt, wIr1, wIr2, wSlS, wPop, wAppPop, R.wk, R.st, R.ar, R.bl, R.no, R.sq, R.slot, setsR, startR, List.map_cons, List.map_nil, List.cons_append, List.nil_append, List.length_cons, List.length_nil, List.replicate, List.getElem?_cons_zero, List.getElem?_cons_succ, Option.some.injEq, exists_eq_left', exists_eq_left, R.d.injEq, R.own.injEq, R.fr.injEq, List.set_cons_zero, List.set_cons_succ, addD, subD, mulDD, fdivD, modD, ltD, leD, gtD, geD, eqD, neD, isND, isnotND, inDD, notInDD, ixD, negD, lenD, absD, intD, min2D, max2D, listD, tupleD, slD, Nat.reduceAdd, Nat.reduceSub, Nat.add_zero, Nat.zero_add, true_and, and_true, ite_true, ite_false, if_true, if_false, Bool.false_eq_true, reduceIte, Option.some_inj, Bool.true_eq_false, tgW, tgWs, wipe3, List.set_nil, c1, decide_false])
      exact p_draw_1 h m0 m1
theorem ok_law_draw (D : Txt K mg base T) : Cal false P w K mg base T 1 "_law_draw" (C_draw L_hand) :=
  cal_draw (wb := w_law_draw) D.d_law_draw sc_law_draw bi_law_draw (fun f cdv A outer s H E hp hr => hs_cons (hs_if (PW.pt (ew_and (et_cmp (op_eqT (u64 hr)) (ev_ix ix_D (ev_var (pv 0)) (ev_int) (fun _ _ => rfl)) (ev_int) (nomark _)) (ew_and1 (et_cmp op_ltD (ev_ix ix_D (ev_var (pv 0)) (ev_int) (fun _ _ => rfl)) (ev_callB cr_len rfl D.n_len bb_len (el_cons selW (ev_ix ix_D (ev_var (pv 0)) (ev_int) (fun _ _ => rfl)) (el_nil))) (nomark _))))) (hs_cons (hs_set (i := 2) (by decide) sc_law_draw.nd rfl (by first | exact Or.inl rfl | exact Or.inr rfl) (ev_ix ix_D (ev_ix ix_D (ev_var (pv 0)) (ev_int) (fun _ _ => rfl)) (ev_ix ix_D (ev_var (pv 0)) (ev_int) (fun _ _ => rfl)) (fun _ _ => rfl))) (hs_cons (hs_setIx (ev_op op_addD (ev_ix ix_D (ev_var (pv 0)) (ev_int) (fun _ _ => rfl)) (ev_int)) (pv 0) (ev_int)) (hs_cons (hs_setIx (ev_op op_modD (ev_callTy cr_int rfl D.n_int bb_int (el_cons selW (ev_op op_addD (ev_op op_addD (ev_op op_mulDD (ev_ix ix_D (ev_var (pv 0)) (ev_int) (fun _ _ => rfl)) (ev_int)) (ev_op op_mulDD (ev_var (pv 2)) (ev_int))) (ev_int)) (el_nil))) (ev_int)) (pv 0) (ev_int)) (hs_one (hs_if (et_cmp op_geD (ev_var (pv 2)) (ev_op op_powD (ev_int) (ev_int)) (nomark _)) (hs_one (hs_setIx (ev_var (pv 2)) (pv 0) (ev_int))) (hs_nil)))))) (hs_nil)) (hs_cons (hs_if (et_cmp op_gtD (ev_ix ix_D (ev_var (pv 0)) (ev_int) (fun _ _ => rfl)) (ev_int) (nomark _)) (hs_cons (hs_set (i := 3) (by decide) sc_law_draw.nd rfl (by first | exact Or.inl rfl | exact Or.inr rfl) (ev_op op_modD (ev_callTy cr_int rfl D.n_int bb_int (el_cons selW (ev_ix ix_D (ev_var (pv 0)) (ev_int) (fun _ _ => rfl)) (el_nil))) (ev_var (pv 1)))) (hs_cons (hs_setIx (ev_op op_fdivD (ev_ix ix_D (ev_var (pv 0)) (ev_int) (fun _ _ => rfl)) (ev_var (pv 1))) (pv 0) (ev_int)) (hs_one (hs_ret (ev_var (pv 3)))))) (hs_nil)) (hs_cons (hs_setIx (ev_op op_addD (ev_ix ix_D (ev_var (pv 0)) (ev_int) (fun _ _ => rfl)) (ev_int)) (pv 0) (ev_int)) (hs_cons (hs_set (i := 4) (by decide) sc_law_draw.nd rfl (by first | exact Or.inl rfl | exact Or.inr rfl) (ev_op op_modD (ev_callTy cr_int rfl D.n_int bb_int (el_cons selW (ev_op op_mulDD (ev_callTy cr_int rfl D.n_int bb_int (el_cons selW (ev_op op_addD (ev_ix ix_D (ev_var (pv 0)) (ev_int) (fun _ _ => rfl)) (ev_op op_mulDD (ev_int) (ev_ix ix_D (ev_var (pv 0)) (ev_int) (fun _ _ => rfl)))) (el_nil))) (ev_int)) (el_nil))) (ev_int))) (hs_cons (hs_set (i := 4) (by decide) sc_law_draw.nd rfl (by first | exact Or.inl rfl | exact Or.inr rfl) (ev_op op_modD (ev_callTy cr_int rfl D.n_int bb_int (el_cons selW (ev_op op_mulDD (ev_var (pv 4)) (ev_op op_addD (ev_op op_fdivD (ev_var (pv 4)) (ev_int)) (ev_int))) (el_nil))) (ev_int))) (hs_cons (hs_set (i := 4) (by decide) sc_law_draw.nd rfl (by first | exact Or.inl rfl | exact Or.inr rfl) (ev_op op_modD (ev_callTy cr_int rfl D.n_int bb_int (el_cons selW (ev_op op_mulDD (ev_var (pv 4)) (ev_op op_addD (ev_op op_fdivD (ev_var (pv 4)) (ev_int)) (ev_int))) (el_nil))) (ev_int))) (hs_one (hs_ret (ev_op op_modD (ev_callTy cr_int rfl D.n_int bb_int (el_cons selW (ev_op op_fdivD (ev_var (pv 4)) (ev_int)) (el_nil))) (ev_var (pv 1))))))))))) p_law_draw
abbrev C_law_draw : Ct := C_draw L_hand
/-! ### _law_any -/
abbrev N_law_any : List Str := ["hand", "some"]
theorem sc_law_any : FnScope N_law_any ["hand", "some"] (defScope s_law_any) := ⟨rfl, rfl, rfl, by decide +kernel, rfl, by decide +kernel, by decide +kernel⟩
theorem bi_law_any : BindsBy "_law_any" s_law_any ["hand", "some"] := fun _ _ _ _ _ _ us hl => match us, hl with | [_, _], _ => rfl
def w_law_any : WS := wRet (wOp ixD (wV 1) (wFn C_law_draw (wRcons (wV 0) (wRcons (wCall lenD (wCons R.wk (wV 1) (wNil))) (wRnil)))))
def C_law_any : Ct := fun rs Q _ => ∃ xs, rs = [.hand L_hand, .d (.list xs)] ∧ 0 < xs.length ∧ xs.length < 1073741824 ∧ ∀ x ∈ xs, Q (.d x)
theorem l_law_any : ∀ rs Q X, C_law_any rs Q X → rs.length = 2 := by
  rintro rs Q X ⟨_, rfl, _⟩
  rfl
theorem p_law_any : ∀ rs Q X, C_law_any rs Q X → w_law_any ⟨fun _ => Q (.d .none), Q, fun _ => False, fun _ => False⟩ (startR N_law_any rs) X := by
  rintro rs Q X ⟨xs, rfl, h0, h1, h⟩
  (try simp only [sumDD, eqS, reprD, wV, wC, wNil, wCons, wTup, wLst, wOp, wUn, wCall, wT, wNot, wAnd, wOr, wB, wAndV, wOrV, wNotV, wIf, wIsi, wChain, wNo, wPart, wSl, wSet, wSetO, wTg, wPnil, wPcons, wPar, wNext, wSeq, wRet, wRetO, wRetN, wIfS, wBrk, wCnt, wDrop, wFrz, wApp, wExt, wSetIx, wAugIx, wAug, wRnil, wRcons, wFn, wRaise, wWord, wRetH, wSetIxH, wCount, wIndex, wIsE, wListRg1, wListRg2, wYes, wIs, wIz, wIl, wIt, wIr1, wIr2, wSlS, wPop, wAppPop, R.wk, R.st, R.ar, R.bl, R.no, R.sq, R.slot, setsR, startR, List.map_cons, List.map_nil, List.cons_append, List.nil_append, List.length_cons, List.length_nil, List.replicate, List.getElem?_cons_zero, List.getElem?_cons_succ, Option.some.injEq, exists_eq_left', exists_eq_left, R.d.injEq, R.own.injEq, R.fr.injEq, List.set_cons_zero, List.set_cons_succ, addD, subD, mulDD, fdivD, modD, ltD, leD, gtD, geD, eqD, neD, isND, isnotND, inDD, notInDD, ixD, negD, lenD, absD, intD, min2D, max2D, listD, tupleD, slD, Nat.reduceAdd, Nat.reduceSub, Nat.add_zero, Nat.zero_add, true_and, and_true, ite_true, ite_false, if_true, if_false, Bool.false_eq_true, reduceIte, Option.some_inj, Bool.true_eq_false, tgW, tgWs, wipe3, List.set_nil, w_law_any, C_law_draw, C_draw])
  refine ⟨xs.length, rfl, by omega, by omega, fun n n0 n1 => ?_⟩
  (try simp only [sumDD, eqS, reprD, wV, wC, wNil, wCons, wTup, wLst, wOp, wUn, wCall, wT, wNot, wAnd, wOr, wB, wAndV, wOrV, wNotV, wIf, wIsi, wChain, wNo, wPart, wSl, wSet, wSetO, wTg, wPnil, wPcons, wPar, wNext, wSeq, wRet, wRetO, wRetN, wIfS, wBrk, wCnt, wDrop, wFrz, wApp, wExt, wSetIx, wAugIx, wAug, wRnil, wRcons, wFn, wRaise, wWord, wRetH, wSetIxH, wCount, wIndex, wIsE, wListRg1, wListRg2, wYes, wIs, wIz, wIl, wIt, wIr1, wIr2, wSlS, wPop, wAppPop, R.wk, R.st, R.ar, R.bl, R.no, R.sq, R.slot, setsR, startR, List.map_cons, List.map_nil, List.cons_append, List.nil_append, List.length_cons, List.length_nil, List.replicate, List.getElem?_cons_zero, List.getElem?_cons_succ, Option.some.injEq, exists_eq_left', exists_eq_left, R.d.injEq, R.own.injEq, R.fr.injEq, List.set_cons_zero, List.set_cons_succ, addD, subD, mulDD, fdivD, modD, ltD, leD, gtD, geD, eqD, neD, isND, isnotND, inDD, notInDD, ixD, negD, lenD, absD, intD, min2D, max2D, listD, tupleD, slD, Nat.reduceAdd, Nat.reduceSub, Nat.add_zero, Nat.zero_add, true_and, and_true, ite_true, ite_false, if_true, if_false, Bool.false_eq_true, reduceIte, Option.some_inj, Bool.true_eq_false, tgW, tgWs, wipe3, List.set_nil])
  have hn : n.toNat < xs.length := by omega
  have e := at_nat hn
  rw [Int.toNat_of_nonneg n0] at e
  exact ⟨_, e, h _ (List.getElem_mem hn)⟩
theorem ok_law_any (D : Txt K mg base T) : Cal false P w K mg base T 2 "_law_any" C_law_any :=
  cal_of (wb := w_law_any) D.d_law_any sc_law_any bi_law_any l_law_any (fun f cdv A outer s H E hp hr hgd => ess_one (es_ret (ev_ix ix_D (ev_var (pv 1)) (ev_fnC (ok_law_draw D) hr (by decide) (fun h => by cases h) rfl pass_cx (er_cons (ev_var (pv 0)) (er_cons (ev_callB cr_len rfl D.n_len bb_len (el_cons selW (ev_var (pv 1)) (el_nil))) (er_nil)))) (fun _ _ => rfl)))) p_law_any
/-! ### _law_same -/
abbrev N_law_same : List Str := ["one", "other"]
theorem sc_law_same : FnScope N_law_same ["one", "other"] (defScope s_law_same) := ⟨rfl, rfl, rfl, by decide +kernel, rfl, by decide +kernel, by decide +kernel⟩
theorem bi_law_same : BindsBy "_law_same" s_law_same ["one", "other"] := fun _ _ _ _ _ _ us hl => match us, hl with | [_, _], _ => rfl
def w_law_same : WS := wRet (wOp eqS (wCall reprD (wCons R.wk (wV 0) (wNil))) (wCall reprD (wCons R.wk (wV 1) (wNil))))
def C_law_same : Ct := fun rs Q _ => ∃ x, rs = [.d x, .d x] ∧ Shw x ∧ Q (.d (.bool true))
theorem l_law_same : ∀ rs Q X, C_law_same rs Q X → rs.length = 2 := by
  rintro rs Q X ⟨_, rfl, _⟩
  rfl
theorem p_law_same : ∀ rs Q X, C_law_same rs Q X → w_law_same ⟨fun _ => Q (.d .none), Q, fun _ => False, fun _ => False⟩ (startR N_law_same rs) X := by
  rintro rs Q X ⟨x, rfl, ⟨s1, s2, s3⟩, h⟩
  (try simp only [sumDD, eqS, reprD, wV, wC, wNil, wCons, wTup, wLst, wOp, wUn, wCall, wT, wNot, wAnd, wOr, wB, wAndV, wOrV, wNotV, wIf, wIsi, wChain, wNo, wPart, wSl, wSet, wSetO, wTg, wPnil, wPcons, wPar, wNext, wSeq, wRet, wRetO, wRetN, wIfS, wBrk, wCnt, wDrop, wFrz, wApp, wExt, wSetIx, wAugIx, wAug, wRnil, wRcons, wFn, wRaise, wWord, wRetH, wSetIxH, wCount, wIndex, wIsE, wListRg1, wListRg2, wYes, wIs, wIz, wIl, wIt, wIr1, wIr2, wSlS, wPop, wAppPop, R.wk, R.st, R.ar, R.bl, R.no, R.sq, R.slot, setsR, startR, List.map_cons, List.map_nil, List.cons_append, List.nil_append, List.length_cons, List.length_nil, List.replicate, List.getElem?_cons_zero, List.getElem?_cons_succ, Option.some.injEq, exists_eq_left', exists_eq_left, R.d.injEq, R.own.injEq, R.fr.injEq, List.set_cons_zero, List.set_cons_succ, addD, subD, mulDD, fdivD, modD, ltD, leD, gtD, geD, eqD, neD, isND, isnotND, inDD, notInDD, ixD, negD, lenD, absD, intD, min2D, max2D, listD, tupleD, slD, Nat.reduceAdd, Nat.reduceSub, Nat.add_zero, Nat.zero_add, true_and, and_true, ite_true, ite_false, if_true, if_false, Bool.false_eq_true, reduceIte, Option.some_inj, Bool.true_eq_false, tgW, tgWs, wipe3, List.set_nil, w_law_same, decide_true])
  exact ⟨⟨s1, s2, s3⟩, ⟨s1, s2, s3⟩, h⟩
theorem ok_law_same (D : Txt K mg base T) : Cal true P w K mg base T 1 "_law_same" C_law_same :=
  cal_of (wb := w_law_same) D.d_law_same sc_law_same bi_law_same l_law_same (fun f cdv A outer s H E hp hr hgd => ess_one (es_ret (ev_cmp op_eqS (ev_callB (cr_repr (hgd rfl) hr) rfl D.n_repr bb_repr (el_cons selW (ev_var (pv 0)) (el_nil))) (ev_callB (cr_repr (hgd rfl) hr) rfl D.n_repr bb_repr (el_cons selW (ev_var (pv 1)) (el_nil))) (nomark _)))) p_law_same
/-! ### _law_jugs -/
abbrev N_law_jugs : List Str := ["hand", "wide", "jugs", "jug", "size"]
theorem sc_law_jugs : FnScope N_law_jugs ["hand"] (defScope s_law_jugs) := ⟨rfl, rfl, rfl, by decide +kernel, rfl, by decide +kernel, by decide +kernel⟩
theorem bi_law_jugs : BindsBy "_law_jugs" s_law_jugs ["hand"] := fun _ _ _ _ _ _ us hl => match us, hl with | [_], _ => rfl
def w_law_jugs_3 : WS := wRet (wIf (wT (wOp ltD (wCall lenD (wCons R.wk (wV 2) (wNil))) (wC (.int 3)))) (wV 2) (wCall tupleD (wCons R.wk (wLc (wIs (wV 2)) (.one 4) wYes (wOp addD (wC (.int 1)) (wOp modD (wCall intD (wCons R.wk (wV 4) (wNil))) (wC (.int 5)))) [4]) (wNil))))
def w_law_jugs_2 : WS := wSeq (wIfS (wT (wOp ltD (wCall lenD (wCons R.wk (wV 2) (wNil))) (wC (.int 3)))) (wSet 2 (wFn C_law_any (wRcons (wV 0) (wRcons (wLst (wCons R.st (wV 2) (wCons R.st (wOp addD (wV 2) (wTup (wCons R.st (wOp addD (wC (.int 1)) (wFn C_law_draw (wRcons (wV 0) (wRcons (wC (.int 12)) (wRnil))))) (wNil)))) (wNil)))) (wRnil))))) (wNext)) (w_law_jugs_3)
def w_law_jugs_1 : WS := wSeq (wSet 2 (wCall tupleD (wCons R.wk (wLc (wIr1 (wOp addD (wC (.int 1)) (wFn C_law_draw (wRcons (wV 0) (wRcons (wC (.int 3)) (wRnil)))))) (.one 3) wYes (wOp addD (wC (.int 1)) (wFn C_law_draw (wRcons (wV 0) (wRcons (wV 1) (wRnil))))) [3]) (wNil)))) (w_law_jugs_2)
def w_law_jugs : WS := wSeq (wSet 1 (wFn C_law_any (wRcons (wV 0) (wRcons (wLst (wCons R.st (wC (.int 4)) (wCons R.st (wC (.int 6)) (wCons R.st (wC (.int 9)) (wNil))))) (wRnil))))) (w_law_jugs_1)
-- split
def GoodJ (js : List Int) : Prop := 1 ≤ js.length ∧ js.length ≤ 3 ∧ ∀ j ∈ js, 1 ≤ j ∧ j ≤ 12
def C_law_jugs : Ct := fun rs Q _ => rs = [.hand L_hand] ∧ ∀ js, GoodJ js → Q (.d (tupI js))
theorem l_law_jugs : ∀ rs Q X, C_law_jugs rs Q X → rs.length = 1 := by
  rintro rs Q X ⟨rfl, _⟩
  rfl
theorem made_ints {S : PyData → PyData → Prop} {lo hi : Int} (hS : ∀ x y, S x y → ∃ i : Int, y = .int i ∧ lo ≤ i ∧ i ≤ hi) : ∀ {xs ys : List PyData}, Made (fun x o => ∃ y, o = some y ∧ S x y) xs ys → ∃ js : List Int, ys = js.map .int ∧ js.length = xs.length ∧ ∀ j ∈ js, lo ≤ j ∧ j ≤ hi
  | _, _, .nil => ⟨[], rfl, rfl, fun _ h => by cases h⟩
  | _, _, .keep ⟨y, h, s⟩ r => by
    cases h
    obtain ⟨js, rfl, h1, h2⟩ := made_ints hS r
    obtain ⟨i, rfl, hi⟩ := hS _ _ s
    exact ⟨i :: js, rfl, by simp [h1], fun j hj => (List.mem_cons.mp hj).elim (fun e => by subst e; exact hi) (h2 j)⟩
  | _, _, .drop h _ => by obtain ⟨y, h, _⟩ := h; cases h
theorem rgD_len {n : Int} (h : 0 ≤ n) : (rgD 0 n).length = n.toNat := by
  simp [rgD]
theorem p_law_jugs_3 {Q : R → Prop} {X : Exc → Prop} {a b c : Option R} {js : List Int} (hj : GoodJ js) (h : ∀ js, GoodJ js → Q (.d (tupI js))) : w_law_jugs_3 ⟨fun _ => Q (.d .none), Q, fun _ => False, fun _ => False⟩ [some (.hand L_hand), a, some (.d (tupI js)), b, c] X := by
  (try simp only [sumDD, eqS, reprD, wV, wC, wNil, wCons, wTup, wLst, wOp, wUn, wCall, wT, wNot, wAnd, wOr, wB, wAndV, wOrV, wNotV, wIf, wIsi, wChain, wNo, wPart, wSl, wSet, wSetO, wTg, wPnil, wPcons, wPar, wNext, wSeq, wRet, wRetO, wRetN, wIfS, wBrk, wCnt, wDrop, wFrz, wApp, wExt, wSetIx, wAugIx, wAug, wRnil, wRcons, wFn, wRaise, wWord, wRetH, wSetIxH, wCount, wIndex, wIsE, wListRg1, wListRg2, wYes, wIs, wIz, wIl, wIt, wIr1, wIr2, wSlS, wPop, wAppPop, R.wk, R.st, R.ar, R.bl, R.no, R.sq, R.slot, setsR, startR, List.map_cons, List.map_nil, List.cons_append, List.nil_append, List.length_cons, List.length_nil, List.replicate, List.getElem?_cons_zero, List.getElem?_cons_succ, Option.some.injEq, exists_eq_left', exists_eq_left, R.d.injEq, R.own.injEq, R.fr.injEq, List.set_cons_zero, List.set_cons_succ, addD, subD, mulDD, fdivD, modD, ltD, leD, gtD, geD, eqD, neD, isND, isnotND, inDD, notInDD, ixD, negD, lenD, absD, intD, min2D, max2D, listD, tupleD, slD, Nat.reduceAdd, Nat.reduceSub, Nat.add_zero, Nat.zero_add, true_and, and_true, ite_true, ite_false, if_true, if_false, Bool.false_eq_true, reduceIte, Option.some_inj, Bool.true_eq_false, tgW, tgWs, wipe3, List.set_nil, w_law_jugs_3, tupI, List.length_map])
  by_cases c3 : (js.length : Int) < 3
  · (try simp only [sumDD, eqS, reprD, wV, wC, wNil, wCons, wTup, wLst, wOp, wUn, wCall, wT, wNot, wAnd, wOr, wB, wAndV, wOrV, wNotV, wIf, wIsi, wChain, wNo, wPart, wSl, wSet, wSetO, wTg, wPnil, wPcons, wPar, wNext, wSeq, wRet, wRetO, wRetN, wIfS, wBrk, wCnt, wDrop, wFrz, wApp, wExt, wSetIx, wAugIx, wAug, wRnil, wRcons, wFn, wRaise, wWord, wRetH, wSetIxH, wCount, wIndex, wIsE, wListRg1, wListRg2, wYes, wIs, wIz, wIl, wIt, wIr1, wIr2, wSlS, wPop, wAppPop, R.wk, R.st, R.ar, R.bl, R.no, R.sq, R.slot, setsR, startR, List.map_cons, List.map_nil, List.cons_append, List.nil_append, List.length_cons, List.length_nil, List.replicate, List.getElem?_cons_zero, List.getElem?_cons_succ, Option.some.injEq, exists_eq_left', exists_eq_left, R.d.injEq, R.own.injEq, R.fr.injEq, List.set_cons_zero, List.set_cons_succ, addD, subD, mulDD, fdivD, modD, ltD, leD, gtD, geD, eqD, neD, isND, isnotND, inDD, notInDD, ixD, negD, lenD, absD, intD, min2D, max2D, listD, tupleD, slD, Nat.reduceAdd, Nat.reduceSub, Nat.add_zero, Nat.zero_add, true_and, and_true, ite_true, ite_false, if_true, if_false, Bool.false_eq_true, reduceIte, Option.some_inj, Bool.true_eq_false, tgW, tgWs, wipe3, List.set_nil, c3, decide_true])
    exact h js hj
  · (try simp only [sumDD, eqS, reprD, wV, wC, wNil, wCons, wTup, wLst, wOp, wUn, wCall, wT, wNot, wAnd, wOr, wB, wAndV, wOrV, wNotV, wIf, wIsi, wChain, wNo, wPart, wSl, wSet, wSetO, wTg, wPnil, wPcons, wPar, wNext, wSeq, wRet, wRetO, wRetN, wIfS, wBrk, wCnt, wDrop, wFrz, wApp, wExt, wSetIx, wAugIx, wAug, wRnil, wRcons, wFn, wRaise, wWord, wRetH, wSetIxH, wCount, wIndex, wIsE, wListRg1, wListRg2, wYes, wIs, wIz, wIl, wIt, wIr1, wIr2, wSlS, wPop, wAppPop, R.wk, R.st, R.ar, R.bl, R.no, R.sq, R.slot, setsR, startR, List.map_cons, List.map_nil, List.cons_append, List.nil_append, List.length_cons, List.length_nil, List.replicate, List.getElem?_cons_zero, List.getElem?_cons_succ, Option.some.injEq, exists_eq_left', exists_eq_left, R.d.injEq, R.own.injEq, R.fr.injEq, List.set_cons_zero, List.set_cons_succ, addD, subD, mulDD, fdivD, modD, ltD, leD, gtD, geD, eqD, neD, isND, isnotND, inDD, notInDD, ixD, negD, lenD, absD, intD, min2D, max2D, listD, tupleD, slD, Nat.reduceAdd, Nat.reduceSub, Nat.add_zero, Nat.zero_add, true_and, and_true, ite_true, ite_false, if_true, if_false, Bool.false_eq_true, reduceIte, Option.some_inj, Bool.true_eq_false, tgW, tgWs, wipe3, List.set_nil, c3, decide_false, wLc])
    refine lc_map (fun x => match x with | .int i => .int (1 + i % 5) | _ => .none) _ (fun x hx k hk => ?_) ?_
    · obtain ⟨i, _, rfl⟩ := List.mem_map.mp hx
      (try simp only [sumDD, eqS, reprD, wV, wC, wNil, wCons, wTup, wLst, wOp, wUn, wCall, wT, wNot, wAnd, wOr, wB, wAndV, wOrV, wNotV, wIf, wIsi, wChain, wNo, wPart, wSl, wSet, wSetO, wTg, wPnil, wPcons, wPar, wNext, wSeq, wRet, wRetO, wRetN, wIfS, wBrk, wCnt, wDrop, wFrz, wApp, wExt, wSetIx, wAugIx, wAug, wRnil, wRcons, wFn, wRaise, wWord, wRetH, wSetIxH, wCount, wIndex, wIsE, wListRg1, wListRg2, wYes, wIs, wIz, wIl, wIt, wIr1, wIr2, wSlS, wPop, wAppPop, R.wk, R.st, R.ar, R.bl, R.no, R.sq, R.slot, setsR, startR, List.map_cons, List.map_nil, List.cons_append, List.nil_append, List.length_cons, List.length_nil, List.replicate, List.getElem?_cons_zero, List.getElem?_cons_succ, Option.some.injEq, exists_eq_left', exists_eq_left, R.d.injEq, R.own.injEq, R.fr.injEq, List.set_cons_zero, List.set_cons_succ, addD, subD, mulDD, fdivD, modD, ltD, leD, gtD, geD, eqD, neD, isND, isnotND, inDD, notInDD, ixD, negD, lenD, absD, intD, min2D, max2D, listD, tupleD, slD, Nat.reduceAdd, Nat.reduceSub, Nat.add_zero, Nat.zero_add, true_and, and_true, ite_true, ite_false, if_true, if_false, Bool.false_eq_true, reduceIte, Option.some_inj, Bool.true_eq_false, tgW, tgWs, wipe3, List.set_nil])
      exact ⟨by decide, hk⟩
    · (try simp only [sumDD, eqS, reprD, wV, wC, wNil, wCons, wTup, wLst, wOp, wUn, wCall, wT, wNot, wAnd, wOr, wB, wAndV, wOrV, wNotV, wIf, wIsi, wChain, wNo, wPart, wSl, wSet, wSetO, wTg, wPnil, wPcons, wPar, wNext, wSeq, wRet, wRetO, wRetN, wIfS, wBrk, wCnt, wDrop, wFrz, wApp, wExt, wSetIx, wAugIx, wAug, wRnil, wRcons, wFn, wRaise, wWord, wRetH, wSetIxH, wCount, wIndex, wIsE, wListRg1, wListRg2, wYes, wIs, wIz, wIl, wIt, wIr1, wIr2, wSlS, wPop, wAppPop, R.wk, R.st, R.ar, R.bl, R.no, R.sq, R.slot, setsR, startR, List.map_cons, List.map_nil, List.cons_append, List.nil_append, List.length_cons, List.length_nil, List.replicate, List.getElem?_cons_zero, List.getElem?_cons_succ, Option.some.injEq, exists_eq_left', exists_eq_left, R.d.injEq, R.own.injEq, R.fr.injEq, List.set_cons_zero, List.set_cons_succ, addD, subD, mulDD, fdivD, modD, ltD, leD, gtD, geD, eqD, neD, isND, isnotND, inDD, notInDD, ixD, negD, lenD, absD, intD, min2D, max2D, listD, tupleD, slD, Nat.reduceAdd, Nat.reduceSub, Nat.add_zero, Nat.zero_add, true_and, and_true, ite_true, ite_false, if_true, if_false, Bool.false_eq_true, reduceIte, Option.some_inj, Bool.true_eq_false, tgW, tgWs, wipe3, List.set_nil, List.map_map])
      have e : List.map ((fun x => match x with | PyData.int i => PyData.int (1 + i % 5) | _ => PyData.none) ∘ PyData.int) js = (js.map fun i => 1 + i % 5).map .int := by
        rw [List.map_map]
        rfl
      rw [e]
      refine h _ ⟨by rw [List.length_map]; exact hj.1, by rw [List.length_map]; exact hj.2.1, fun j hm => ?_⟩
      obtain ⟨i, _, rfl⟩ := List.mem_map.mp hm
      omega
theorem p_law_jugs_2 {Q : R → Prop} {X : Exc → Prop} {a : Option R} {js : List Int} (hj : GoodJ js) (h : ∀ js, GoodJ js → Q (.d (tupI js))) : w_law_jugs_2 ⟨fun _ => Q (.d .none), Q, fun _ => False, fun _ => False⟩ [some (.hand L_hand), a, some (.d (tupI js)), none, none] X := by
  (try simp only [sumDD, eqS, reprD, wV, wC, wNil, wCons, wTup, wLst, wOp, wUn, wCall, wT, wNot, wAnd, wOr, wB, wAndV, wOrV, wNotV, wIf, wIsi, wChain, wNo, wPart, wSl, wSet, wSetO, wTg, wPnil, wPcons, wPar, wNext, wSeq, wRet, wRetO, wRetN, wIfS, wBrk, wCnt, wDrop, wFrz, wApp, wExt, wSetIx, wAugIx, wAug, wRnil, wRcons, wFn, wRaise, wWord, wRetH, wSetIxH, wCount, wIndex, wIsE, wListRg1, wListRg2, wYes, wIs, wIz, wIl, wIt, wIr1, wIr2, wSlS, wPop, wAppPop, R.wk, R.st, R.ar, R.bl, R.no, R.sq, R.slot, setsR, startR, List.map_cons, List.map_nil, List.cons_append, List.nil_append, List.length_cons, List.length_nil, List.replicate, List.getElem?_cons_zero, List.getElem?_cons_succ, Option.some.injEq, exists_eq_left', exists_eq_left, R.d.injEq, R.own.injEq, R.fr.injEq, List.set_cons_zero, List.set_cons_succ, addD, subD, mulDD, fdivD, modD, ltD, leD, gtD, geD, eqD, neD, isND, isnotND, inDD, notInDD, ixD, negD, lenD, absD, intD, min2D, max2D, listD, tupleD, slD, Nat.reduceAdd, Nat.reduceSub, Nat.add_zero, Nat.zero_add, true_and, and_true, ite_true, ite_false, if_true, if_false, Bool.false_eq_true, reduceIte, Option.some_inj, Bool.true_eq_false, tgW, tgWs, wipe3, List.set_nil, w_law_jugs_2, tupI, List.length_map])
  by_cases c3 : (js.length : Int) < 3
  · (try simp only [sumDD, eqS, reprD, wV, wC, wNil, wCons, wTup, wLst, wOp, wUn, wCall, wT, wNot, wAnd, wOr, wB, wAndV, wOrV, wNotV, wIf, wIsi, wChain, wNo, wPart, wSl, wSet, wSetO, wTg, wPnil, wPcons, wPar, wNext, wSeq, wRet, wRetO, wRetN, wIfS, wBrk, wCnt, wDrop, wFrz, wApp, wExt, wSetIx, wAugIx, wAug, wRnil, wRcons, wFn, wRaise, wWord, wRetH, wSetIxH, wCount, wIndex, wIsE, wListRg1, wListRg2, wYes, wIs, wIz, wIl, wIt, wIr1, wIr2, wSlS, wPop, wAppPop, R.wk, R.st, R.ar, R.bl, R.no, R.sq, R.slot, setsR, startR, List.map_cons, List.map_nil, List.cons_append, List.nil_append, List.length_cons, List.length_nil, List.replicate, List.getElem?_cons_zero, List.getElem?_cons_succ, Option.some.injEq, exists_eq_left', exists_eq_left, R.d.injEq, R.own.injEq, R.fr.injEq, List.set_cons_zero, List.set_cons_succ, addD, subD, mulDD, fdivD, modD, ltD, leD, gtD, geD, eqD, neD, isND, isnotND, inDD, notInDD, ixD, negD, lenD, absD, intD, min2D, max2D, listD, tupleD, slD, Nat.reduceAdd, Nat.reduceSub, Nat.add_zero, Nat.zero_add, true_and, and_true, ite_true, ite_false, if_true, if_false, Bool.false_eq_true, reduceIte, Option.some_inj, Bool.true_eq_false, tgW, tgWs, wipe3, List.set_nil, c3, decide_true, C_law_draw, C_draw, C_law_any])
    refine ⟨12, rfl, by decide, by decide, fun n n0 n1 => ?_⟩
    (try simp only [sumDD, eqS, reprD, wV, wC, wNil, wCons, wTup, wLst, wOp, wUn, wCall, wT, wNot, wAnd, wOr, wB, wAndV, wOrV, wNotV, wIf, wIsi, wChain, wNo, wPart, wSl, wSet, wSetO, wTg, wPnil, wPcons, wPar, wNext, wSeq, wRet, wRetO, wRetN, wIfS, wBrk, wCnt, wDrop, wFrz, wApp, wExt, wSetIx, wAugIx, wAug, wRnil, wRcons, wFn, wRaise, wWord, wRetH, wSetIxH, wCount, wIndex, wIsE, wListRg1, wListRg2, wYes, wIs, wIz, wIl, wIt, wIr1, wIr2, wSlS, wPop, wAppPop, R.wk, R.st, R.ar, R.bl, R.no, R.sq, R.slot, setsR, startR, List.map_cons, List.map_nil, List.cons_append, List.nil_append, List.length_cons, List.length_nil, List.replicate, List.getElem?_cons_zero, List.getElem?_cons_succ, Option.some.injEq, exists_eq_left', exists_eq_left, R.d.injEq, R.own.injEq, R.fr.injEq, List.set_cons_zero, List.set_cons_succ, addD, subD, mulDD, fdivD, modD, ltD, leD, gtD, geD, eqD, neD, isND, isnotND, inDD, notInDD, ixD, negD, lenD, absD, intD, min2D, max2D, listD, tupleD, slD, Nat.reduceAdd, Nat.reduceSub, Nat.add_zero, Nat.zero_add, true_and, and_true, ite_true, ite_false, if_true, if_false, Bool.false_eq_true, reduceIte, Option.some_inj, Bool.true_eq_false, tgW, tgWs, wipe3, List.set_nil])
    refine ⟨?_, _, rfl, Nat.zero_lt_succ _, by show (2 : Nat) < _; omega, fun x hx => ?_⟩
    · rw [sizeLine_eq]
      have := hj.2.1
      omega
    · simp only [List.mem_cons, List.not_mem_nil, or_false] at hx
      rcases hx with rfl | rfl
      · (try simp only [sumDD, eqS, reprD, wV, wC, wNil, wCons, wTup, wLst, wOp, wUn, wCall, wT, wNot, wAnd, wOr, wB, wAndV, wOrV, wNotV, wIf, wIsi, wChain, wNo, wPart, wSl, wSet, wSetO, wTg, wPnil, wPcons, wPar, wNext, wSeq, wRet, wRetO, wRetN, wIfS, wBrk, wCnt, wDrop, wFrz, wApp, wExt, wSetIx, wAugIx, wAug, wRnil, wRcons, wFn, wRaise, wWord, wRetH, wSetIxH, wCount, wIndex, wIsE, wListRg1, wListRg2, wYes, wIs, wIz, wIl, wIt, wIr1, wIr2, wSlS, wPop, wAppPop, R.wk, R.st, R.ar, R.bl, R.no, R.sq, R.slot, setsR, startR, List.map_cons, List.map_nil, List.cons_append, List.nil_append, List.length_cons, List.length_nil, List.replicate, List.getElem?_cons_zero, List.getElem?_cons_succ, Option.some.injEq, exists_eq_left', exists_eq_left, R.d.injEq, R.own.injEq, R.fr.injEq, List.set_cons_zero, List.set_cons_succ, addD, subD, mulDD, fdivD, modD, ltD, leD, gtD, geD, eqD, neD, isND, isnotND, inDD, notInDD, ixD, negD, lenD, absD, intD, min2D, max2D, listD, tupleD, slD, Nat.reduceAdd, Nat.reduceSub, Nat.add_zero, Nat.zero_add, true_and, and_true, ite_true, ite_false, if_true, if_false, Bool.false_eq_true, reduceIte, Option.some_inj, Bool.true_eq_false, tgW, tgWs, wipe3, List.set_nil])
        exact p_law_jugs_3 hj h
      · (try simp only [sumDD, eqS, reprD, wV, wC, wNil, wCons, wTup, wLst, wOp, wUn, wCall, wT, wNot, wAnd, wOr, wB, wAndV, wOrV, wNotV, wIf, wIsi, wChain, wNo, wPart, wSl, wSet, wSetO, wTg, wPnil, wPcons, wPar, wNext, wSeq, wRet, wRetO, wRetN, wIfS, wBrk, wCnt, wDrop, wFrz, wApp, wExt, wSetIx, wAugIx, wAug, wRnil, wRcons, wFn, wRaise, wWord, wRetH, wSetIxH, wCount, wIndex, wIsE, wListRg1, wListRg2, wYes, wIs, wIz, wIl, wIt, wIr1, wIr2, wSlS, wPop, wAppPop, R.wk, R.st, R.ar, R.bl, R.no, R.sq, R.slot, setsR, startR, List.map_cons, List.map_nil, List.cons_append, List.nil_append, List.length_cons, List.length_nil, List.replicate, List.getElem?_cons_zero, List.getElem?_cons_succ, Option.some.injEq, exists_eq_left', exists_eq_left, R.d.injEq, R.own.injEq, R.fr.injEq, List.set_cons_zero, List.set_cons_succ, addD, subD, mulDD, fdivD, modD, ltD, leD, gtD, geD, eqD, neD, isND, isnotND, inDD, notInDD, ixD, negD, lenD, absD, intD, min2D, max2D, listD, tupleD, slD, Nat.reduceAdd, Nat.reduceSub, Nat.add_zero, Nat.zero_add, true_and, and_true, ite_true, ite_false, if_true, if_false, Bool.false_eq_true, reduceIte, Option.some_inj, Bool.true_eq_false, tgW, tgWs, wipe3, List.set_nil])
        have e : js.map PyData.int ++ [.int (1 + n)] = (js ++ [1 + n]).map .int := by rw [List.map_append]; rfl
        rw [e]
        refine p_law_jugs_3 ⟨by simp, by simp; omega, fun j hm => ?_⟩ h
        rcases List.mem_append.mp hm with hm | hm
        · exact hj.2.2 j hm
        · have e := List.mem_singleton.mp hm
          omega
  · (try simp only [sumDD, eqS, reprD, wV, wC, wNil, wCons, wTup, wLst, wOp, wUn, wCall, wT, wNot, wAnd, wOr, wB, wAndV, wOrV, wNotV, wIf, wIsi, wChain, wNo, wPart, wSl, wSet, wSetO, wTg, wPnil, wPcons, wPar, wNext, wSeq, wRet, wRetO, wRetN, wIfS, wBrk, wCnt, wDrop, wFrz, wApp, wExt, wSetIx, wAugIx, wAug, wRnil, wRcons, wFn, wRaise, wWord, wRetH, wSetIxH, wCount, wIndex, wIsE, wListRg1, wListRg2, wYes, wIs, wIz, wIl, wIt, wIr1, wIr2, wSlS, wPop, wAppPop, R.wk, R.st, R.ar, R.bl, R.no, R.sq, R.slot, setsR, startR, List.map_cons, List.map_nil, List.cons_append, List.nil_append, List.length_cons, List.length_nil, List.replicate, List.getElem?_cons_zero, List.getElem?_cons_succ, Option.some.injEq, exists_eq_left', exists_eq_left, R.d.injEq, R.own.injEq, R.fr.injEq, List.set_cons_zero, List.set_cons_succ, addD, subD, mulDD, fdivD, modD, ltD, leD, gtD, geD, eqD, neD, isND, isnotND, inDD, notInDD, ixD, negD, lenD, absD, intD, min2D, max2D, listD, tupleD, slD, Nat.reduceAdd, Nat.reduceSub, Nat.add_zero, Nat.zero_add, true_and, and_true, ite_true, ite_false, if_true, if_false, Bool.false_eq_true, reduceIte, Option.some_inj, Bool.true_eq_false, tgW, tgWs, wipe3, List.set_nil, c3, decide_false])
    exact p_law_jugs_3 hj h
theorem p_law_jugs : ∀ rs Q X, C_law_jugs rs Q X → w_law_jugs ⟨fun _ => Q (.d .none), Q, fun _ => False, fun _ => False⟩ (startR N_law_jugs rs) X := by
  rintro rs Q X ⟨rfl, h⟩
  (try simp only [sumDD, eqS, reprD, wV, wC, wNil, wCons, wTup, wLst, wOp, wUn, wCall, wT, wNot, wAnd, wOr, wB, wAndV, wOrV, wNotV, wIf, wIsi, wChain, wNo, wPart, wSl, wSet, wSetO, wTg, wPnil, wPcons, wPar, wNext, wSeq, wRet, wRetO, wRetN, wIfS, wBrk, wCnt, wDrop, wFrz, wApp, wExt, wSetIx, wAugIx, wAug, wRnil, wRcons, wFn, wRaise, wWord, wRetH, wSetIxH, wCount, wIndex, wIsE, wListRg1, wListRg2, wYes, wIs, wIz, wIl, wIt, wIr1, wIr2, wSlS, wPop, wAppPop, R.wk, R.st, R.ar, R.bl, R.no, R.sq, R.slot, setsR, startR, List.map_cons, List.map_nil, List.cons_append, List.nil_append, List.length_cons, List.length_nil, List.replicate, List.getElem?_cons_zero, List.getElem?_cons_succ, Option.some.injEq, exists_eq_left', exists_eq_left, R.d.injEq, R.own.injEq, R.fr.injEq, List.set_cons_zero, List.set_cons_succ, addD, subD, mulDD, fdivD, modD, ltD, leD, gtD, geD, eqD, neD, isND, isnotND, inDD, notInDD, ixD, negD, lenD, absD, intD, min2D, max2D, listD, tupleD, slD, Nat.reduceAdd, Nat.reduceSub, Nat.add_zero, Nat.zero_add, true_and, and_true, ite_true, ite_false, if_true, if_false, Bool.false_eq_true, reduceIte, Option.some_inj, Bool.true_eq_false, tgW, tgWs, wipe3, List.set_nil, w_law_jugs, C_law_any])
  refine ⟨_, rfl, by decide, by decide, fun x hx => ?_⟩
  have hx' : ∃ k : Int, x = .int k ∧ 1 ≤ k ∧ k ≤ 9 := by
    simp at hx
    rcases hx with rfl | rfl | rfl
    · exact ⟨4, rfl, by decide, by decide⟩
    · exact ⟨6, rfl, by decide, by decide⟩
    · exact ⟨9, rfl, by decide, by decide⟩
  obtain ⟨k, rfl, k1, k2⟩ := hx'
  (try simp only [sumDD, eqS, reprD, wV, wC, wNil, wCons, wTup, wLst, wOp, wUn, wCall, wT, wNot, wAnd, wOr, wB, wAndV, wOrV, wNotV, wIf, wIsi, wChain, wNo, wPart, wSl, wSet, wSetO, wTg, wPnil, wPcons, wPar, wNext, wSeq, wRet, wRetO, wRetN, wIfS, wBrk, wCnt, wDrop, wFrz, wApp, wExt, wSetIx, wAugIx, wAug, wRnil, wRcons, wFn, wRaise, wWord, wRetH, wSetIxH, wCount, wIndex, wIsE, wListRg1, wListRg2, wYes, wIs, wIz, wIl, wIt, wIr1, wIr2, wSlS, wPop, wAppPop, R.wk, R.st, R.ar, R.bl, R.no, R.sq, R.slot, setsR, startR, List.map_cons, List.map_nil, List.cons_append, List.nil_append, List.length_cons, List.length_nil, List.replicate, List.getElem?_cons_zero, List.getElem?_cons_succ, Option.some.injEq, exists_eq_left', exists_eq_left, R.d.injEq, R.own.injEq, R.fr.injEq, List.set_cons_zero, List.set_cons_succ, addD, subD, mulDD, fdivD, modD, ltD, leD, gtD, geD, eqD, neD, isND, isnotND, inDD, notInDD, ixD, negD, lenD, absD, intD, min2D, max2D, listD, tupleD, slD, Nat.reduceAdd, Nat.reduceSub, Nat.add_zero, Nat.zero_add, true_and, and_true, ite_true, ite_false, if_true, if_false, Bool.false_eq_true, reduceIte, Option.some_inj, Bool.true_eq_false, tgW, tgWs, wipe3, List.set_nil, w_law_jugs_1, C_law_draw, C_draw, wLc])
  refine ⟨3, rfl, by decide, by decide, fun n n0 n1 => ?_⟩
  (try simp only [sumDD, eqS, reprD, wV, wC, wNil, wCons, wTup, wLst, wOp, wUn, wCall, wT, wNot, wAnd, wOr, wB, wAndV, wOrV, wNotV, wIf, wIsi, wChain, wNo, wPart, wSl, wSet, wSetO, wTg, wPnil, wPcons, wPar, wNext, wSeq, wRet, wRetO, wRetN, wIfS, wBrk, wCnt, wDrop, wFrz, wApp, wExt, wSetIx, wAugIx, wAug, wRnil, wRcons, wFn, wRaise, wWord, wRetH, wSetIxH, wCount, wIndex, wIsE, wListRg1, wListRg2, wYes, wIs, wIz, wIl, wIt, wIr1, wIr2, wSlS, wPop, wAppPop, R.wk, R.st, R.ar, R.bl, R.no, R.sq, R.slot, setsR, startR, List.map_cons, List.map_nil, List.cons_append, List.nil_append, List.length_cons, List.length_nil, List.replicate, List.getElem?_cons_zero, List.getElem?_cons_succ, Option.some.injEq, exists_eq_left', exists_eq_left, R.d.injEq, R.own.injEq, R.fr.injEq, List.set_cons_zero, List.set_cons_succ, addD, subD, mulDD, fdivD, modD, ltD, leD, gtD, geD, eqD, neD, isND, isnotND, inDD, notInDD, ixD, negD, lenD, absD, intD, min2D, max2D, listD, tupleD, slD, Nat.reduceAdd, Nat.reduceSub, Nat.add_zero, Nat.zero_add, true_and, and_true, ite_true, ite_false, if_true, if_false, Bool.false_eq_true, reduceIte, Option.some_inj, Bool.true_eq_false, tgW, tgWs, wipe3, List.set_nil])
  refine ⟨⟨by omega, by omega⟩, ?_⟩
  refine lc_all (fun _ y => ∃ i : Int, y = .int i ∧ 1 ≤ i ∧ i ≤ 9) _ (fun x hx k2 hk2 => ?_) fun ys hy => ?_
  · (try simp only [sumDD, eqS, reprD, wV, wC, wNil, wCons, wTup, wLst, wOp, wUn, wCall, wT, wNot, wAnd, wOr, wB, wAndV, wOrV, wNotV, wIf, wIsi, wChain, wNo, wPart, wSl, wSet, wSetO, wTg, wPnil, wPcons, wPar, wNext, wSeq, wRet, wRetO, wRetN, wIfS, wBrk, wCnt, wDrop, wFrz, wApp, wExt, wSetIx, wAugIx, wAug, wRnil, wRcons, wFn, wRaise, wWord, wRetH, wSetIxH, wCount, wIndex, wIsE, wListRg1, wListRg2, wYes, wIs, wIz, wIl, wIt, wIr1, wIr2, wSlS, wPop, wAppPop, R.wk, R.st, R.ar, R.bl, R.no, R.sq, R.slot, setsR, startR, List.map_cons, List.map_nil, List.cons_append, List.nil_append, List.length_cons, List.length_nil, List.replicate, List.getElem?_cons_zero, List.getElem?_cons_succ, Option.some.injEq, exists_eq_left', exists_eq_left, R.d.injEq, R.own.injEq, R.fr.injEq, List.set_cons_zero, List.set_cons_succ, addD, subD, mulDD, fdivD, modD, ltD, leD, gtD, geD, eqD, neD, isND, isnotND, inDD, notInDD, ixD, negD, lenD, absD, intD, min2D, max2D, listD, tupleD, slD, Nat.reduceAdd, Nat.reduceSub, Nat.add_zero, Nat.zero_add, true_and, and_true, ite_true, ite_false, if_true, if_false, Bool.false_eq_true, reduceIte, Option.some_inj, Bool.true_eq_false, tgW, tgWs, wipe3, List.set_nil])
    refine ⟨k, rfl, by omega, by omega, fun m m0 m1 => ?_⟩
    (try simp only [sumDD, eqS, reprD, wV, wC, wNil, wCons, wTup, wLst, wOp, wUn, wCall, wT, wNot, wAnd, wOr, wB, wAndV, wOrV, wNotV, wIf, wIsi, wChain, wNo, wPart, wSl, wSet, wSetO, wTg, wPnil, wPcons, wPar, wNext, wSeq, wRet, wRetO, wRetN, wIfS, wBrk, wCnt, wDrop, wFrz, wApp, wExt, wSetIx, wAugIx, wAug, wRnil, wRcons, wFn, wRaise, wWord, wRetH, wSetIxH, wCount, wIndex, wIsE, wListRg1, wListRg2, wYes, wIs, wIz, wIl, wIt, wIr1, wIr2, wSlS, wPop, wAppPop, R.wk, R.st, R.ar, R.bl, R.no, R.sq, R.slot, setsR, startR, List.map_cons, List.map_nil, List.cons_append, List.nil_append, List.length_cons, List.length_nil, List.replicate, List.getElem?_cons_zero, List.getElem?_cons_succ, Option.some.injEq, exists_eq_left', exists_eq_left, R.d.injEq, R.own.injEq, R.fr.injEq, List.set_cons_zero, List.set_cons_succ, addD, subD, mulDD, fdivD, modD, ltD, leD, gtD, geD, eqD, neD, isND, isnotND, inDD, notInDD, ixD, negD, lenD, absD, intD, min2D, max2D, listD, tupleD, slD, Nat.reduceAdd, Nat.reduceSub, Nat.add_zero, Nat.zero_add, true_and, and_true, ite_true, ite_false, if_true, if_false, Bool.false_eq_true, reduceIte, Option.some_inj, Bool.true_eq_false, tgW, tgWs, wipe3, List.set_nil])
    exact hk2 _ ⟨1 + m, rfl, by omega, by omega⟩
  · obtain ⟨js, rfl, hl, hj⟩ := made_ints (fun _ _ h => h) hy
    rw [rgD_len (by omega)] at hl
    (try simp only [sumDD, eqS, reprD, wV, wC, wNil, wCons, wTup, wLst, wOp, wUn, wCall, wT, wNot, wAnd, wOr, wB, wAndV, wOrV, wNotV, wIf, wIsi, wChain, wNo, wPart, wSl, wSet, wSetO, wTg, wPnil, wPcons, wPar, wNext, wSeq, wRet, wRetO, wRetN, wIfS, wBrk, wCnt, wDrop, wFrz, wApp, wExt, wSetIx, wAugIx, wAug, wRnil, wRcons, wFn, wRaise, wWord, wRetH, wSetIxH, wCount, wIndex, wIsE, wListRg1, wListRg2, wYes, wIs, wIz, wIl, wIt, wIr1, wIr2, wSlS, wPop, wAppPop, R.wk, R.st, R.ar, R.bl, R.no, R.sq, R.slot, setsR, startR, List.map_cons, List.map_nil, List.cons_append, List.nil_append, List.length_cons, List.length_nil, List.replicate, List.getElem?_cons_zero, List.getElem?_cons_succ, Option.some.injEq, exists_eq_left', exists_eq_left, R.d.injEq, R.own.injEq, R.fr.injEq, List.set_cons_zero, List.set_cons_succ, addD, subD, mulDD, fdivD, modD, ltD, leD, gtD, geD, eqD, neD, isND, isnotND, inDD, notInDD, ixD, negD, lenD, absD, intD, min2D, max2D, listD, tupleD, slD, Nat.reduceAdd, Nat.reduceSub, Nat.add_zero, Nat.zero_add, true_and, and_true, ite_true, ite_false, if_true, if_false, Bool.false_eq_true, reduceIte, Option.some_inj, Bool.true_eq_false, tgW, tgWs, wipe3, List.set_nil])
    exact p_law_jugs_2 ⟨by omega, by omega, fun j hm => by have := hj j hm; omega⟩ h
theorem ok_law_jugs (D : Txt K mg base T) : Cal false P w K mg base T 3 "_law_jugs" C_law_jugs :=
  cal_of (wb := w_law_jugs) D.d_law_jugs sc_law_jugs bi_law_jugs l_law_jugs (fun f cdv A outer s H E hp hr hgd => ess_cons (es_set (i := 1) sc_law_jugs.nd rfl (by first | exact Or.inl rfl | exact Or.inr rfl) (ev_fnC (ok_law_any D) hr (by decide) (fun h => by cases h) rfl pass_cx (er_cons (ev_var (pv 0)) (er_cons (ev_lst (el_cons selS (ev_int) (el_cons selS (ev_int) (el_cons selS (ev_int) (el_nil))))) (er_nil))))) (ess_cons (es_set (i := 2) sc_law_jugs.nd rfl (by first | exact Or.inl rfl | exact Or.inr rfl) (ev_callTy cr_tuple rfl D.n_tuple bb_tuple (el_cons selW (ev_lc (own := [("jug", 3)]) (g := .one 3) rfl sc_law_jugs.nd (ei_rg1 rfl D.n_range (ev_op op_addD (ev_int) (ev_fnC (ok_law_draw D) hr (by decide) (fun h => by cases h) rfl pass_cx (er_cons (ev_var (pv 0)) (er_cons (ev_int) (er_nil)))))) (blkOk_by (N := N_law_jugs) (sc := defScope s_law_jugs) (by decide +kernel)) (by decide) (fun _ _ _ _ _ => pg_name (i := 3) sc_law_jugs.nd rfl (Or.inl rfl)) (fun _ _ _ _ _ => eb_yes) (fun _ _ _ _ _ => ev_op op_addD (ev_int) (ev_fnC (ok_law_draw D) hr (by decide) (fun h => by cases h) rfl passL (er_cons (ev_var (pv 0)) (er_cons (ev_var (pv 1)) (er_nil)))))) (el_nil)))) (ess_cons (es_if (et_cmp op_ltD (ev_callB cr_len rfl D.n_len bb_len (el_cons selW (ev_var (pv 2)) (el_nil))) (ev_int) (nomark _)) (ess_one (es_set (i := 2) sc_law_jugs.nd rfl (by first | exact Or.inl rfl | exact Or.inr rfl) (ev_fnC (ok_law_any D) hr (by decide) (fun h => by cases h) rfl pass_cx (er_cons (ev_var (pv 0)) (er_cons (ev_lst (el_cons selS (ev_var (pv 2)) (el_cons selS (ev_op op_addD (ev_var (pv 2)) (ev_tup (el_cons selS (ev_op op_addD (ev_int) (ev_fnC (ok_law_draw D) hr (by decide) (fun h => by cases h) rfl pass_cx (er_cons (ev_var (pv 0)) (er_cons (ev_int) (er_nil))))) (el_nil)))) (el_nil)))) (er_nil)))))) (ess_nil)) (ess_one (es_ret (ev_if (et_cmp op_ltD (ev_callB cr_len rfl D.n_len bb_len (el_cons selW (ev_var (pv 2)) (el_nil))) (ev_int) (nomark _)) (ev_var (pv 2)) (ev_callTy cr_tuple rfl D.n_tuple bb_tuple (el_cons selW (ev_lc (own := [("size", 4)]) (g := .one 4) rfl sc_law_jugs.nd (ei_seq (ev_var (pv 2))) (blkOk_by (N := N_law_jugs) (sc := defScope s_law_jugs) (by decide +kernel)) (by decide) (fun _ _ _ _ _ => pg_name (i := 4) sc_law_jugs.nd rfl (Or.inl rfl)) (fun _ _ _ _ _ => eb_yes) (fun _ _ _ _ _ => ev_op op_addD (ev_int) (ev_op op_modD (ev_callTy cr_int rfl D.n_int bb_int (el_cons selW (ev_var (pv 4)) (el_nil))) (ev_int)))) (el_nil))))))))) p_law_jugs
/-! ### _law_all_deeds -/
abbrev N_law_all_deeds : List Str := ["many", "found", "i", "j"]
theorem sc_law_all_deeds : FnScope N_law_all_deeds ["many"] (defScope s_law_all_deeds) := ⟨rfl, rfl, rfl, by decide +kernel, rfl, by decide +kernel, by decide +kernel⟩
theorem bi_law_all_deeds : BindsBy "_law_all_deeds" s_law_all_deeds ["many"] := fun _ _ _ _ _ _ us hl => match us, hl with | [_], _ => rfl
def w_law_all_deeds : WS := wSeq (wSetO 1 (wOp addD (wLc (wIr1 (wV 0)) (.one 2) wYes (wTup (wCons R.st (wC (.str "empty")) (wCons R.st (wV 2) (wNil)))) [2]) (wLc (wIr1 (wV 0)) (.one 2) wYes (wTup (wCons R.st (wC (.str "fill")) (wCons R.st (wV 2) (wNil)))) [2]))) (wSeq (wFor (wIr1 (wV 0)) (.one 2) (wExt 1 (wLc (wIr1 (wV 0)) (.one 3) (wT (wOp neD (wV 3) (wV 2))) (wTup (wCons R.st (wC (.str "pour")) (wCons R.st (wV 2) (wCons R.st (wV 3) (wNil))))) [3]))) (wRetO 1))
def C_law_all_deeds : Ct := fun rs Q _ => ∃ n : Nat, rs = [.d (.int n)] ∧ 1 ≤ n ∧ n ≤ 3 ∧ ∀ ds : List Deed, ds ≠ [] → ds.length ≤ 100 → (∀ d ∈ ds, d.ok n = true) → Q (.fr (ds.map Deed.toD))
theorem l_law_all_deeds : ∀ rs Q X, C_law_all_deeds rs Q X → rs.length = 1 := by
  rintro rs Q X ⟨_, rfl, _⟩
  rfl
theorem rg_in {n : Nat} {x : PyData} (h : x ∈ rgD 0 n) : ∃ i : Nat, x = .int i ∧ i < n := by
  unfold rgD at h
  obtain ⟨i, hi, rfl⟩ := List.mem_map.mp h
  rw [List.mem_range] at hi
  exact ⟨i, by simp, by omega⟩
theorem rg_len (n : Nat) : (rgD 0 n).length = n := by simp [rgD]
/-- a list made of deeds -/
theorem made_deeds {S : PyData → Option PyData → Prop} {n : Nat} (hS : ∀ x y, S x (some y) → ∃ d : Deed, y = d.toD ∧ d.ok n = true) : ∀ {xs ys : List PyData}, Made S xs ys → ∃ ds : List Deed, ys = ds.map Deed.toD ∧ ds.length ≤ xs.length ∧ ∀ d ∈ ds, d.ok n = true
  | _, _, .nil => ⟨[], rfl, Nat.le_refl _, fun _ h => by cases h⟩
  | _, _, .keep h r => by
    obtain ⟨ds, rfl, h1, h2⟩ := made_deeds hS r
    obtain ⟨d, rfl, hd⟩ := hS _ _ h
    exact ⟨d :: ds, rfl, by simp; omega, fun j hj => (List.mem_cons.mp hj).elim (fun e => by subst e; exact hd) (h2 j)⟩
  | _, _, .drop h r => by
    obtain ⟨ds, rfl, h1, h2⟩ := made_deeds hS r
    exact ⟨ds, rfl, by simp; omega, h2⟩
theorem p_law_all_deeds : ∀ rs Q X, C_law_all_deeds rs Q X → w_law_all_deeds ⟨fun _ => Q (.d .none), Q, fun _ => False, fun _ => False⟩ (startR N_law_all_deeds rs) X := by
  rintro rs Q X ⟨n, rfl, n1, n3, h⟩
  (try simp only [sumDD, eqS, reprD, wV, wC, wNil, wCons, wTup, wLst, wOp, wUn, wCall, wT, wNot, wAnd, wOr, wB, wAndV, wOrV, wNotV, wIf, wIsi, wChain, wNo, wPart, wSl, wSet, wSetO, wTg, wPnil, wPcons, wPar, wNext, wSeq, wRet, wRetO, wRetN, wIfS, wBrk, wCnt, wDrop, wFrz, wApp, wExt, wSetIx, wAugIx, wAug, wRnil, wRcons, wFn, wRaise, wWord, wRetH, wSetIxH, wCount, wIndex, wIsE, wListRg1, wListRg2, wYes, wIs, wIz, wIl, wIt, wIr1, wIr2, wSlS, wPop, wAppPop, R.wk, R.st, R.ar, R.bl, R.no, R.sq, R.slot, setsR, startR, List.map_cons, List.map_nil, List.cons_append, List.nil_append, List.length_cons, List.length_nil, List.replicate, List.getElem?_cons_zero, List.getElem?_cons_succ, Option.some.injEq, exists_eq_left', exists_eq_left, R.d.injEq, R.own.injEq, R.fr.injEq, List.set_cons_zero, List.set_cons_succ, addD, subD, mulDD, fdivD, modD, ltD, leD, gtD, geD, eqD, neD, isND, isnotND, inDD, notInDD, ixD, negD, lenD, absD, intD, min2D, max2D, listD, tupleD, slD, Nat.reduceAdd, Nat.reduceSub, Nat.add_zero, Nat.zero_add, true_and, and_true, ite_true, ite_false, if_true, if_false, Bool.false_eq_true, reduceIte, Option.some_inj, Bool.true_eq_false, tgW, tgWs, wipe3, List.set_nil, w_law_all_deeds, wLc, wFor])
  have hR : (-1000000 : Int) ≤ n ∧ (n : Int) ≤ 16777216 := ⟨by omega, by omega⟩
  refine ⟨hR, ?_⟩
  refine lc_rule (fun x o => ∃ y, o = some y ∧ ∃ d : Deed, y = d.toD ∧ d.ok n = true) _ _ (fun x hx k hk => ?_) fun ys hy => ?_
  · obtain ⟨i, rfl, hi⟩ := rg_in hx
    (try simp only [sumDD, eqS, reprD, wV, wC, wNil, wCons, wTup, wLst, wOp, wUn, wCall, wT, wNot, wAnd, wOr, wB, wAndV, wOrV, wNotV, wIf, wIsi, wChain, wNo, wPart, wSl, wSet, wSetO, wTg, wPnil, wPcons, wPar, wNext, wSeq, wRet, wRetO, wRetN, wIfS, wBrk, wCnt, wDrop, wFrz, wApp, wExt, wSetIx, wAugIx, wAug, wRnil, wRcons, wFn, wRaise, wWord, wRetH, wSetIxH, wCount, wIndex, wIsE, wListRg1, wListRg2, wYes, wIs, wIz, wIl, wIt, wIr1, wIr2, wSlS, wPop, wAppPop, R.wk, R.st, R.ar, R.bl, R.no, R.sq, R.slot, setsR, startR, List.map_cons, List.map_nil, List.cons_append, List.nil_append, List.length_cons, List.length_nil, List.replicate, List.getElem?_cons_zero, List.getElem?_cons_succ, Option.some.injEq, exists_eq_left', exists_eq_left, R.d.injEq, R.own.injEq, R.fr.injEq, List.set_cons_zero, List.set_cons_succ, addD, subD, mulDD, fdivD, modD, ltD, leD, gtD, geD, eqD, neD, isND, isnotND, inDD, notInDD, ixD, negD, lenD, absD, intD, min2D, max2D, listD, tupleD, slD, Nat.reduceAdd, Nat.reduceSub, Nat.add_zero, Nat.zero_add, true_and, and_true, ite_true, ite_false, if_true, if_false, Bool.false_eq_true, reduceIte, Option.some_inj, Bool.true_eq_false, tgW, tgWs, wipe3, List.set_nil])
    exact hk _ ⟨_, rfl, .empty i, rfl, decide_eq_true hi⟩
  refine ⟨hR, ?_⟩
  refine lc_rule (fun x o => ∃ y, o = some y ∧ ∃ d : Deed, y = d.toD ∧ d.ok n = true) _ _ (fun x hx k hk => ?_) fun zs hz => ?_
  · obtain ⟨i, rfl, hi⟩ := rg_in hx
    (try simp only [sumDD, eqS, reprD, wV, wC, wNil, wCons, wTup, wLst, wOp, wUn, wCall, wT, wNot, wAnd, wOr, wB, wAndV, wOrV, wNotV, wIf, wIsi, wChain, wNo, wPart, wSl, wSet, wSetO, wTg, wPnil, wPcons, wPar, wNext, wSeq, wRet, wRetO, wRetN, wIfS, wBrk, wCnt, wDrop, wFrz, wApp, wExt, wSetIx, wAugIx, wAug, wRnil, wRcons, wFn, wRaise, wWord, wRetH, wSetIxH, wCount, wIndex, wIsE, wListRg1, wListRg2, wYes, wIs, wIz, wIl, wIt, wIr1, wIr2, wSlS, wPop, wAppPop, R.wk, R.st, R.ar, R.bl, R.no, R.sq, R.slot, setsR, startR, List.map_cons, List.map_nil, List.cons_append, List.nil_append, List.length_cons, List.length_nil, List.replicate, List.getElem?_cons_zero, List.getElem?_cons_succ, Option.some.injEq, exists_eq_left', exists_eq_left, R.d.injEq, R.own.injEq, R.fr.injEq, List.set_cons_zero, List.set_cons_succ, addD, subD, mulDD, fdivD, modD, ltD, leD, gtD, geD, eqD, neD, isND, isnotND, inDD, notInDD, ixD, negD, lenD, absD, intD, min2D, max2D, listD, tupleD, slD, Nat.reduceAdd, Nat.reduceSub, Nat.add_zero, Nat.zero_add, true_and, and_true, ite_true, ite_false, if_true, if_false, Bool.false_eq_true, reduceIte, Option.some_inj, Bool.true_eq_false, tgW, tgWs, wipe3, List.set_nil])
    exact hk _ ⟨_, rfl, .fill i, rfl, decide_eq_true hi⟩
  have l1 := made_len hy
  have l2 := made_len hz
  rw [rg_len] at l1 l2
  obtain ⟨ds1, rfl, b1, c1⟩ := made_deeds (fun x y ⟨z, e, hd⟩ => by cases e; exact hd) hy
  obtain ⟨ds2, rfl, b2, c2⟩ := made_deeds (fun x y ⟨z, e, hd⟩ => by cases e; exact hd) hz
  rw [List.length_map] at l1 l2
  (try simp only [sumDD, eqS, reprD, wV, wC, wNil, wCons, wTup, wLst, wOp, wUn, wCall, wT, wNot, wAnd, wOr, wB, wAndV, wOrV, wNotV, wIf, wIsi, wChain, wNo, wPart, wSl, wSet, wSetO, wTg, wPnil, wPcons, wPar, wNext, wSeq, wRet, wRetO, wRetN, wIfS, wBrk, wCnt, wDrop, wFrz, wApp, wExt, wSetIx, wAugIx, wAug, wRnil, wRcons, wFn, wRaise, wWord, wRetH, wSetIxH, wCount, wIndex, wIsE, wListRg1, wListRg2, wYes, wIs, wIz, wIl, wIt, wIr1, wIr2, wSlS, wPop, wAppPop, R.wk, R.st, R.ar, R.bl, R.no, R.sq, R.slot, setsR, startR, List.map_cons, List.map_nil, List.cons_append, List.nil_append, List.length_cons, List.length_nil, List.replicate, List.getElem?_cons_zero, List.getElem?_cons_succ, Option.some.injEq, exists_eq_left', exists_eq_left, R.d.injEq, R.own.injEq, R.fr.injEq, List.set_cons_zero, List.set_cons_succ, addD, subD, mulDD, fdivD, modD, ltD, leD, gtD, geD, eqD, neD, isND, isnotND, inDD, notInDD, ixD, negD, lenD, absD, intD, min2D, max2D, listD, tupleD, slD, Nat.reduceAdd, Nat.reduceSub, Nat.add_zero, Nat.zero_add, true_and, and_true, ite_true, ite_false, if_true, if_false, Bool.false_eq_true, reduceIte, Option.some_inj, Bool.true_eq_false, tgW, tgWs, wipe3, List.set_nil])
  refine ⟨by rw [List.length_map, List.length_map, sizeLine_eq]; omega, hR, ?_⟩
  refine for_rule (fun rest ρ => ∃ (ds : List Deed) (o1 o2 : Option R), ρ = [some (.d (.int n)), some (.own (ds.map Deed.toD)), o1, o2] ∧ ds ≠ [] ∧ ds.length + 3 * rest.length ≤ 20 ∧ (∀ d ∈ ds, d.ok n = true) ∧ ∀ x ∈ rest, ∃ i : Nat, x = .int i ∧ i < n) _ _ ?_ ?_ ?_
  · refine ⟨ds1 ++ ds2, none, none, by rw [List.map_append], fun e => ?_, ?_, fun d hd => (List.mem_append.mp hd).elim (c1 d) (c2 d), fun x hx => rg_in hx⟩
    · have e2 := congrArg List.length e
      rw [List.length_append, List.length_nil] at e2
      omega
    · rw [List.length_append, rg_len]
      omega
  · rintro ρ ⟨ds, o1, o2, rfl, hne, hl, hok, _⟩
    (try simp only [sumDD, eqS, reprD, wV, wC, wNil, wCons, wTup, wLst, wOp, wUn, wCall, wT, wNot, wAnd, wOr, wB, wAndV, wOrV, wNotV, wIf, wIsi, wChain, wNo, wPart, wSl, wSet, wSetO, wTg, wPnil, wPcons, wPar, wNext, wSeq, wRet, wRetO, wRetN, wIfS, wBrk, wCnt, wDrop, wFrz, wApp, wExt, wSetIx, wAugIx, wAug, wRnil, wRcons, wFn, wRaise, wWord, wRetH, wSetIxH, wCount, wIndex, wIsE, wListRg1, wListRg2, wYes, wIs, wIz, wIl, wIt, wIr1, wIr2, wSlS, wPop, wAppPop, R.wk, R.st, R.ar, R.bl, R.no, R.sq, R.slot, setsR, startR, List.map_cons, List.map_nil, List.cons_append, List.nil_append, List.length_cons, List.length_nil, List.replicate, List.getElem?_cons_zero, List.getElem?_cons_succ, Option.some.injEq, exists_eq_left', exists_eq_left, R.d.injEq, R.own.injEq, R.fr.injEq, List.set_cons_zero, List.set_cons_succ, addD, subD, mulDD, fdivD, modD, ltD, leD, gtD, geD, eqD, neD, isND, isnotND, inDD, notInDD, ixD, negD, lenD, absD, intD, min2D, max2D, listD, tupleD, slD, Nat.reduceAdd, Nat.reduceSub, Nat.add_zero, Nat.zero_add, true_and, and_true, ite_true, ite_false, if_true, if_false, Bool.false_eq_true, reduceIte, Option.some_inj, Bool.true_eq_false, tgW, tgWs, wipe3, List.set_nil])
    exact h ds hne (by simp at hl; omega) hok
  · rintro x xs ρ ⟨ds, o1, o2, rfl, hne, hl, hok, hr⟩ N hN
    obtain ⟨i, rfl, hi⟩ := hr x List.mem_cons_self
    (try simp only [sumDD, eqS, reprD, wV, wC, wNil, wCons, wTup, wLst, wOp, wUn, wCall, wT, wNot, wAnd, wOr, wB, wAndV, wOrV, wNotV, wIf, wIsi, wChain, wNo, wPart, wSl, wSet, wSetO, wTg, wPnil, wPcons, wPar, wNext, wSeq, wRet, wRetO, wRetN, wIfS, wBrk, wCnt, wDrop, wFrz, wApp, wExt, wSetIx, wAugIx, wAug, wRnil, wRcons, wFn, wRaise, wWord, wRetH, wSetIxH, wCount, wIndex, wIsE, wListRg1, wListRg2, wYes, wIs, wIz, wIl, wIt, wIr1, wIr2, wSlS, wPop, wAppPop, R.wk, R.st, R.ar, R.bl, R.no, R.sq, R.slot, setsR, startR, List.map_cons, List.map_nil, List.cons_append, List.nil_append, List.length_cons, List.length_nil, List.replicate, List.getElem?_cons_zero, List.getElem?_cons_succ, Option.some.injEq, exists_eq_left', exists_eq_left, R.d.injEq, R.own.injEq, R.fr.injEq, List.set_cons_zero, List.set_cons_succ, addD, subD, mulDD, fdivD, modD, ltD, leD, gtD, geD, eqD, neD, isND, isnotND, inDD, notInDD, ixD, negD, lenD, absD, intD, min2D, max2D, listD, tupleD, slD, Nat.reduceAdd, Nat.reduceSub, Nat.add_zero, Nat.zero_add, true_and, and_true, ite_true, ite_false, if_true, if_false, Bool.false_eq_true, reduceIte, Option.some_inj, Bool.true_eq_false, tgW, tgWs, wipe3, List.set_nil, wLc])
    refine ⟨hR, ?_⟩
    refine lc_rule (fun x o => ∀ y, o = some y → ∃ d : Deed, y = d.toD ∧ d.ok n = true) _ _ (fun x hx k hk => ?_) fun ys hy => ?_
    · obtain ⟨j, rfl, hj⟩ := rg_in hx
      (try simp only [sumDD, eqS, reprD, wV, wC, wNil, wCons, wTup, wLst, wOp, wUn, wCall, wT, wNot, wAnd, wOr, wB, wAndV, wOrV, wNotV, wIf, wIsi, wChain, wNo, wPart, wSl, wSet, wSetO, wTg, wPnil, wPcons, wPar, wNext, wSeq, wRet, wRetO, wRetN, wIfS, wBrk, wCnt, wDrop, wFrz, wApp, wExt, wSetIx, wAugIx, wAug, wRnil, wRcons, wFn, wRaise, wWord, wRetH, wSetIxH, wCount, wIndex, wIsE, wListRg1, wListRg2, wYes, wIs, wIz, wIl, wIt, wIr1, wIr2, wSlS, wPop, wAppPop, R.wk, R.st, R.ar, R.bl, R.no, R.sq, R.slot, setsR, startR, List.map_cons, List.map_nil, List.cons_append, List.nil_append, List.length_cons, List.length_nil, List.replicate, List.getElem?_cons_zero, List.getElem?_cons_succ, Option.some.injEq, exists_eq_left', exists_eq_left, R.d.injEq, R.own.injEq, R.fr.injEq, List.set_cons_zero, List.set_cons_succ, addD, subD, mulDD, fdivD, modD, ltD, leD, gtD, geD, eqD, neD, isND, isnotND, inDD, notInDD, ixD, negD, lenD, absD, intD, min2D, max2D, listD, tupleD, slD, Nat.reduceAdd, Nat.reduceSub, Nat.add_zero, Nat.zero_add, true_and, and_true, ite_true, ite_false, if_true, if_false, Bool.false_eq_true, reduceIte, Option.some_inj, Bool.true_eq_false, tgW, tgWs, wipe3, List.set_nil, eqv_ii, sh_i])
      by_cases c : (j : Int) = i
      · (try simp only [sumDD, eqS, reprD, wV, wC, wNil, wCons, wTup, wLst, wOp, wUn, wCall, wT, wNot, wAnd, wOr, wB, wAndV, wOrV, wNotV, wIf, wIsi, wChain, wNo, wPart, wSl, wSet, wSetO, wTg, wPnil, wPcons, wPar, wNext, wSeq, wRet, wRetO, wRetN, wIfS, wBrk, wCnt, wDrop, wFrz, wApp, wExt, wSetIx, wAugIx, wAug, wRnil, wRcons, wFn, wRaise, wWord, wRetH, wSetIxH, wCount, wIndex, wIsE, wListRg1, wListRg2, wYes, wIs, wIz, wIl, wIt, wIr1, wIr2, wSlS, wPop, wAppPop, R.wk, R.st, R.ar, R.bl, R.no, R.sq, R.slot, setsR, startR, List.map_cons, List.map_nil, List.cons_append, List.nil_append, List.length_cons, List.length_nil, List.replicate, List.getElem?_cons_zero, List.getElem?_cons_succ, Option.some.injEq, exists_eq_left', exists_eq_left, R.d.injEq, R.own.injEq, R.fr.injEq, List.set_cons_zero, List.set_cons_succ, addD, subD, mulDD, fdivD, modD, ltD, leD, gtD, geD, eqD, neD, isND, isnotND, inDD, notInDD, ixD, negD, lenD, absD, intD, min2D, max2D, listD, tupleD, slD, Nat.reduceAdd, Nat.reduceSub, Nat.add_zero, Nat.zero_add, true_and, and_true, ite_true, ite_false, if_true, if_false, Bool.false_eq_true, reduceIte, Option.some_inj, Bool.true_eq_false, tgW, tgWs, wipe3, List.set_nil, c, decide_true, Bool.not_true])
        exact hk none fun y e => by cases e
      · (try simp only [sumDD, eqS, reprD, wV, wC, wNil, wCons, wTup, wLst, wOp, wUn, wCall, wT, wNot, wAnd, wOr, wB, wAndV, wOrV, wNotV, wIf, wIsi, wChain, wNo, wPart, wSl, wSet, wSetO, wTg, wPnil, wPcons, wPar, wNext, wSeq, wRet, wRetO, wRetN, wIfS, wBrk, wCnt, wDrop, wFrz, wApp, wExt, wSetIx, wAugIx, wAug, wRnil, wRcons, wFn, wRaise, wWord, wRetH, wSetIxH, wCount, wIndex, wIsE, wListRg1, wListRg2, wYes, wIs, wIz, wIl, wIt, wIr1, wIr2, wSlS, wPop, wAppPop, R.wk, R.st, R.ar, R.bl, R.no, R.sq, R.slot, setsR, startR, List.map_cons, List.map_nil, List.cons_append, List.nil_append, List.length_cons, List.length_nil, List.replicate, List.getElem?_cons_zero, List.getElem?_cons_succ, Option.some.injEq, exists_eq_left', exists_eq_left, R.d.injEq, R.own.injEq, R.fr.injEq, List.set_cons_zero, List.set_cons_succ, addD, subD, mulDD, fdivD, modD, ltD, leD, gtD, geD, eqD, neD, isND, isnotND, inDD, notInDD, ixD, negD, lenD, absD, intD, min2D, max2D, listD, tupleD, slD, Nat.reduceAdd, Nat.reduceSub, Nat.add_zero, Nat.zero_add, true_and, and_true, ite_true, ite_false, if_true, if_false, Bool.false_eq_true, reduceIte, Option.some_inj, Bool.true_eq_false, tgW, tgWs, wipe3, List.set_nil, c, decide_false, Bool.not_false])
        exact hk _ fun y e => by
          cases e
          exact ⟨.pour i j, rfl, by simp [Deed.ok]; omega⟩
    · obtain ⟨ds2, rfl, b2, c2⟩ := made_deeds (fun x y h => h y rfl) hy
      rw [rg_len] at b2
      rw [List.length_cons] at hl
      (try simp only [sumDD, eqS, reprD, wV, wC, wNil, wCons, wTup, wLst, wOp, wUn, wCall, wT, wNot, wAnd, wOr, wB, wAndV, wOrV, wNotV, wIf, wIsi, wChain, wNo, wPart, wSl, wSet, wSetO, wTg, wPnil, wPcons, wPar, wNext, wSeq, wRet, wRetO, wRetN, wIfS, wBrk, wCnt, wDrop, wFrz, wApp, wExt, wSetIx, wAugIx, wAug, wRnil, wRcons, wFn, wRaise, wWord, wRetH, wSetIxH, wCount, wIndex, wIsE, wListRg1, wListRg2, wYes, wIs, wIz, wIl, wIt, wIr1, wIr2, wSlS, wPop, wAppPop, R.wk, R.st, R.ar, R.bl, R.no, R.sq, R.slot, setsR, startR, List.map_cons, List.map_nil, List.cons_append, List.nil_append, List.length_cons, List.length_nil, List.replicate, List.getElem?_cons_zero, List.getElem?_cons_succ, Option.some.injEq, exists_eq_left', exists_eq_left, R.d.injEq, R.own.injEq, R.fr.injEq, List.set_cons_zero, List.set_cons_succ, addD, subD, mulDD, fdivD, modD, ltD, leD, gtD, geD, eqD, neD, isND, isnotND, inDD, notInDD, ixD, negD, lenD, absD, intD, min2D, max2D, listD, tupleD, slD, Nat.reduceAdd, Nat.reduceSub, Nat.add_zero, Nat.zero_add, true_and, and_true, ite_true, ite_false, if_true, if_false, Bool.false_eq_true, reduceIte, Option.some_inj, Bool.true_eq_false, tgW, tgWs, wipe3, List.set_nil])
      refine ⟨by rw [List.length_map, List.length_map, sizeLine_eq]; omega, hN _ ⟨ds ++ ds2, _, _, by rw [List.map_append], fun e => hne (List.append_eq_nil_iff.mp e).1, by rw [List.length_append]; omega, fun d hd => (List.mem_append.mp hd).elim (hok d) (c2 d), fun x hx => hr x (List.mem_cons_of_mem _ hx)⟩⟩
theorem ok_law_all_deeds (D : Txt K mg base T) : Cal false P w K mg base T 1 "_law_all_deeds" C_law_all_deeds :=
  cal_of (wb := w_law_all_deeds) D.d_law_all_deeds sc_law_all_deeds bi_law_all_deeds l_law_all_deeds (fun f cdv A outer s H E hp hr hgd => ess_cons (es_setO (i := 1) sc_law_all_deeds.nd rfl (by first | exact Or.inl rfl | exact Or.inr rfl) (ev_op op_addD (ev_lc (own := [("i", 2)]) (g := .one 2) rfl sc_law_all_deeds.nd (ei_rg1 rfl D.n_range (ev_var (pv 0))) (blkOk_by (N := N_law_all_deeds) (sc := defScope s_law_all_deeds) (by decide +kernel)) (by decide) (fun _ _ _ _ _ => pg_name (i := 2) sc_law_all_deeds.nd rfl (Or.inl rfl)) (fun _ _ _ _ _ => eb_yes) (fun _ _ _ _ _ => ev_tup (el_cons selS (ev_str) (el_cons selS (ev_var (pv 2)) (el_nil))))) (ev_lc (own := [("i", 2)]) (g := .one 2) rfl sc_law_all_deeds.nd (ei_rg1 rfl D.n_range (ev_var (pv 0))) (blkOk_by (N := N_law_all_deeds) (sc := defScope s_law_all_deeds) (by decide +kernel)) (by decide) (fun _ _ _ _ _ => pg_name (i := 2) sc_law_all_deeds.nd rfl (Or.inl rfl)) (fun _ _ _ _ _ => eb_yes) (fun _ _ _ _ _ => ev_tup (el_cons selS (ev_str) (el_cons selS (ev_var (pv 2)) (el_nil))))))) (ess_cons (es_for (g := .one 2) own_cx rfl (ei_rg1 rfl D.n_range (ev_var (pv 0))) (pg_name (i := 2) sc_law_all_deeds.nd rfl (by first | exact Or.inl rfl | exact Or.inr rfl)) (ess_one (es_ext (pv 1) (ev_lc (own := [("j", 3)]) (g := .one 3) rfl sc_law_all_deeds.nd (ei_rg1 rfl D.n_range (ev_var (pv 0))) (blkOk_by (N := N_law_all_deeds) (sc := defScope s_law_all_deeds) (by decide +kernel)) (by decide) (fun _ _ _ _ _ => pg_name (i := 3) sc_law_all_deeds.nd rfl (Or.inl rfl)) (fun _ _ _ _ _ => pts_one (et_cmp (op_neT (u64 hr)) (ev_var (pv 3)) (ev_var (pv 2)) (nomark _))) (fun _ _ _ _ _ => ev_tup (el_cons selS (ev_str) (el_cons selS (ev_var (pv 2)) (el_cons selS (ev_var (pv 3)) (el_nil))))))))) (ess_one (es_retO (pv 1))))) p_law_all_deeds
/-! ### _law_done -/
abbrev N_law_done : List Str := ["jugs", "filling", "deed", "found", "i", "much"]
theorem sc_law_done : FnScope N_law_done ["jugs", "filling", "deed"] (defScope s_law_done) := ⟨rfl, rfl, rfl, by decide +kernel, rfl, by decide +kernel, by decide +kernel⟩
theorem bi_law_done : BindsBy "_law_done" s_law_done ["jugs", "filling", "deed"] := fun _ _ _ _ _ _ us hl => match us, hl with | [_, _, _], _ => rfl
def w_law_done : WS := wSeq (wPar [3, 4] (wPcons true (wCall listD (wCons R.wk (wV 1) (wNil))) (wPcons false (wOp ixD (wV 2) (wC (.int 1))) (wPnil)))) (wSeq (wIfS (wT (wOp eqD (wOp ixD (wV 2) (wC (.int 0))) (wC (.str "pour")))) (wSeq (wSet 5 (wCall min2D (wCons R.wk (wOp ixD (wV 1) (wV 4)) (wCons R.wk (wOp subD (wOp ixD (wV 0) (wOp ixD (wV 2) (wC (.int 2)))) (wOp ixD (wV 1) (wOp ixD (wV 2) (wC (.int 2))))) (wNil))))) (wSeq (wSetIx 3 (wV 4) (wOp subD (wOp ixD (wV 1) (wV 4)) (wV 5))) (wSetIx 3 (wOp ixD (wV 2) (wC (.int 2))) (wOp addD (wOp ixD (wV 1) (wOp ixD (wV 2) (wC (.int 2)))) (wV 5))))) (wSetIx 3 (wV 4) (wIf (wT (wOp eqD (wOp ixD (wV 2) (wC (.int 0))) (wC (.str "fill")))) (wOp ixD (wV 0) (wV 4)) (wC (.int 0))))) (wRet (wCall tupleD (wCons R.wk (wV 3) (wNil)))))
def C_law_done : Ct := fun rs Q _ => ∃ js fs d, rs = [.d (tupI js), .d (tupI fs), .d (Deed.toD d)] ∧ fs.length = js.length ∧ d.ok js.length = true ∧ Q (.d (tupI (behindF js fs d)))
theorem l_law_done : ∀ rs Q X, C_law_done rs Q X → rs.length = 3 := by
  rintro rs Q X ⟨_, _, _, rfl, _⟩
  rfl
theorem p_law_done : ∀ rs Q X, C_law_done rs Q X → w_law_done ⟨fun _ => Q (.d .none), Q, fun _ => False, fun _ => False⟩ (startR N_law_done rs) X := by
  rintro rs Q X ⟨js, fs, d, rfl, hl, hd, h⟩
  cases d with
  | fill i =>
    have hi : i < js.length := by simpa [Deed.ok] using hd
    (try simp only [sumDD, eqS, reprD, wV, wC, wNil, wCons, wTup, wLst, wOp, wUn, wCall, wT, wNot, wAnd, wOr, wB, wAndV, wOrV, wNotV, wIf, wIsi, wChain, wNo, wPart, wSl, wSet, wSetO, wTg, wPnil, wPcons, wPar, wNext, wSeq, wRet, wRetO, wRetN, wIfS, wBrk, wCnt, wDrop, wFrz, wApp, wExt, wSetIx, wAugIx, wAug, wRnil, wRcons, wFn, wRaise, wWord, wRetH, wSetIxH, wCount, wIndex, wIsE, wListRg1, wListRg2, wYes, wIs, wIz, wIl, wIt, wIr1, wIr2, wSlS, wPop, wAppPop, R.wk, R.st, R.ar, R.bl, R.no, R.sq, R.slot, setsR, startR, List.map_cons, List.map_nil, List.cons_append, List.nil_append, List.length_cons, List.length_nil, List.replicate, List.getElem?_cons_zero, List.getElem?_cons_succ, Option.some.injEq, exists_eq_left', exists_eq_left, R.d.injEq, R.own.injEq, R.fr.injEq, List.set_cons_zero, List.set_cons_succ, addD, subD, mulDD, fdivD, modD, ltD, leD, gtD, geD, eqD, neD, isND, isnotND, inDD, notInDD, ixD, negD, lenD, absD, intD, min2D, max2D, listD, tupleD, slD, Nat.reduceAdd, Nat.reduceSub, Nat.add_zero, Nat.zero_add, true_and, and_true, ite_true, ite_false, if_true, if_false, Bool.false_eq_true, reduceIte, Option.some_inj, Bool.true_eq_false, tgW, tgWs, wipe3, List.set_nil, w_law_done, tupI, Deed.toD, at0, at1, at_map, eqv_ss, sh_fill, sh_pour, ne5, decide_true, hi])
    refine ⟨i, ixN_nat (by rw [List.length_map]; omega), ?_⟩
    (try simp only [sumDD, eqS, reprD, wV, wC, wNil, wCons, wTup, wLst, wOp, wUn, wCall, wT, wNot, wAnd, wOr, wB, wAndV, wOrV, wNotV, wIf, wIsi, wChain, wNo, wPart, wSl, wSet, wSetO, wTg, wPnil, wPcons, wPar, wNext, wSeq, wRet, wRetO, wRetN, wIfS, wBrk, wCnt, wDrop, wFrz, wApp, wExt, wSetIx, wAugIx, wAug, wRnil, wRcons, wFn, wRaise, wWord, wRetH, wSetIxH, wCount, wIndex, wIsE, wListRg1, wListRg2, wYes, wIs, wIz, wIl, wIt, wIr1, wIr2, wSlS, wPop, wAppPop, R.wk, R.st, R.ar, R.bl, R.no, R.sq, R.slot, setsR, startR, List.map_cons, List.map_nil, List.cons_append, List.nil_append, List.length_cons, List.length_nil, List.replicate, List.getElem?_cons_zero, List.getElem?_cons_succ, Option.some.injEq, exists_eq_left', exists_eq_left, R.d.injEq, R.own.injEq, R.fr.injEq, List.set_cons_zero, List.set_cons_succ, addD, subD, mulDD, fdivD, modD, ltD, leD, gtD, geD, eqD, neD, isND, isnotND, inDD, notInDD, ixD, negD, lenD, absD, intD, min2D, max2D, listD, tupleD, slD, Nat.reduceAdd, Nat.reduceSub, Nat.add_zero, Nat.zero_add, true_and, and_true, ite_true, ite_false, if_true, if_false, Bool.false_eq_true, reduceIte, Option.some_inj, Bool.true_eq_false, tgW, tgWs, wipe3, List.set_nil, set_map])
    exact h
  | empty i =>
    have hi : i < js.length := by simpa [Deed.ok] using hd
    (try simp only [sumDD, eqS, reprD, wV, wC, wNil, wCons, wTup, wLst, wOp, wUn, wCall, wT, wNot, wAnd, wOr, wB, wAndV, wOrV, wNotV, wIf, wIsi, wChain, wNo, wPart, wSl, wSet, wSetO, wTg, wPnil, wPcons, wPar, wNext, wSeq, wRet, wRetO, wRetN, wIfS, wBrk, wCnt, wDrop, wFrz, wApp, wExt, wSetIx, wAugIx, wAug, wRnil, wRcons, wFn, wRaise, wWord, wRetH, wSetIxH, wCount, wIndex, wIsE, wListRg1, wListRg2, wYes, wIs, wIz, wIl, wIt, wIr1, wIr2, wSlS, wPop, wAppPop, R.wk, R.st, R.ar, R.bl, R.no, R.sq, R.slot, setsR, startR, List.map_cons, List.map_nil, List.cons_append, List.nil_append, List.length_cons, List.length_nil, List.replicate, List.getElem?_cons_zero, List.getElem?_cons_succ, Option.some.injEq, exists_eq_left', exists_eq_left, R.d.injEq, R.own.injEq, R.fr.injEq, List.set_cons_zero, List.set_cons_succ, addD, subD, mulDD, fdivD, modD, ltD, leD, gtD, geD, eqD, neD, isND, isnotND, inDD, notInDD, ixD, negD, lenD, absD, intD, min2D, max2D, listD, tupleD, slD, Nat.reduceAdd, Nat.reduceSub, Nat.add_zero, Nat.zero_add, true_and, and_true, ite_true, ite_false, if_true, if_false, Bool.false_eq_true, reduceIte, Option.some_inj, Bool.true_eq_false, tgW, tgWs, wipe3, List.set_nil, w_law_done, tupI, Deed.toD, at0, at1, at_map, eqv_ss, sh_fill, sh_empty, sh_pour, ne1, ne4, decide_true, hi])
    refine ⟨i, ixN_nat (by rw [List.length_map]; omega), ?_⟩
    (try simp only [sumDD, eqS, reprD, wV, wC, wNil, wCons, wTup, wLst, wOp, wUn, wCall, wT, wNot, wAnd, wOr, wB, wAndV, wOrV, wNotV, wIf, wIsi, wChain, wNo, wPart, wSl, wSet, wSetO, wTg, wPnil, wPcons, wPar, wNext, wSeq, wRet, wRetO, wRetN, wIfS, wBrk, wCnt, wDrop, wFrz, wApp, wExt, wSetIx, wAugIx, wAug, wRnil, wRcons, wFn, wRaise, wWord, wRetH, wSetIxH, wCount, wIndex, wIsE, wListRg1, wListRg2, wYes, wIs, wIz, wIl, wIt, wIr1, wIr2, wSlS, wPop, wAppPop, R.wk, R.st, R.ar, R.bl, R.no, R.sq, R.slot, setsR, startR, List.map_cons, List.map_nil, List.cons_append, List.nil_append, List.length_cons, List.length_nil, List.replicate, List.getElem?_cons_zero, List.getElem?_cons_succ, Option.some.injEq, exists_eq_left', exists_eq_left, R.d.injEq, R.own.injEq, R.fr.injEq, List.set_cons_zero, List.set_cons_succ, addD, subD, mulDD, fdivD, modD, ltD, leD, gtD, geD, eqD, neD, isND, isnotND, inDD, notInDD, ixD, negD, lenD, absD, intD, min2D, max2D, listD, tupleD, slD, Nat.reduceAdd, Nat.reduceSub, Nat.add_zero, Nat.zero_add, true_and, and_true, ite_true, ite_false, if_true, if_false, Bool.false_eq_true, reduceIte, Option.some_inj, Bool.true_eq_false, tgW, tgWs, wipe3, List.set_nil, set_map])
    exact h
  | pour i j =>
    simp only [Deed.ok, Bool.and_eq_true, decide_eq_true_eq] at hd
    obtain ⟨⟨hi, hj⟩, hij⟩ := hd
    have hi2 : i < fs.length := by omega
    have hj2 : j < fs.length := by omega
    (try simp only [sumDD, eqS, reprD, wV, wC, wNil, wCons, wTup, wLst, wOp, wUn, wCall, wT, wNot, wAnd, wOr, wB, wAndV, wOrV, wNotV, wIf, wIsi, wChain, wNo, wPart, wSl, wSet, wSetO, wTg, wPnil, wPcons, wPar, wNext, wSeq, wRet, wRetO, wRetN, wIfS, wBrk, wCnt, wDrop, wFrz, wApp, wExt, wSetIx, wAugIx, wAug, wRnil, wRcons, wFn, wRaise, wWord, wRetH, wSetIxH, wCount, wIndex, wIsE, wListRg1, wListRg2, wYes, wIs, wIz, wIl, wIt, wIr1, wIr2, wSlS, wPop, wAppPop, R.wk, R.st, R.ar, R.bl, R.no, R.sq, R.slot, setsR, startR, List.map_cons, List.map_nil, List.cons_append, List.nil_append, List.length_cons, List.length_nil, List.replicate, List.getElem?_cons_zero, List.getElem?_cons_succ, Option.some.injEq, exists_eq_left', exists_eq_left, R.d.injEq, R.own.injEq, R.fr.injEq, List.set_cons_zero, List.set_cons_succ, addD, subD, mulDD, fdivD, modD, ltD, leD, gtD, geD, eqD, neD, isND, isnotND, inDD, notInDD, ixD, negD, lenD, absD, intD, min2D, max2D, listD, tupleD, slD, Nat.reduceAdd, Nat.reduceSub, Nat.add_zero, Nat.zero_add, true_and, and_true, ite_true, ite_false, if_true, if_false, Bool.false_eq_true, reduceIte, Option.some_inj, Bool.true_eq_false, tgW, tgWs, wipe3, List.set_nil, w_law_done, tupI, Deed.toD, at0, at1, at2, at_map, eqv_ss, sh_fill, sh_empty, sh_pour, ne2, ne3, decide_true, hi, hj, hi2, hj2])
    refine ⟨i, ixN_nat (by rw [List.length_map]; exact hi2), j, ixN_nat (by rw [List.length_set, List.length_map]; exact hj2), ?_⟩
    (try simp only [sumDD, eqS, reprD, wV, wC, wNil, wCons, wTup, wLst, wOp, wUn, wCall, wT, wNot, wAnd, wOr, wB, wAndV, wOrV, wNotV, wIf, wIsi, wChain, wNo, wPart, wSl, wSet, wSetO, wTg, wPnil, wPcons, wPar, wNext, wSeq, wRet, wRetO, wRetN, wIfS, wBrk, wCnt, wDrop, wFrz, wApp, wExt, wSetIx, wAugIx, wAug, wRnil, wRcons, wFn, wRaise, wWord, wRetH, wSetIxH, wCount, wIndex, wIsE, wListRg1, wListRg2, wYes, wIs, wIz, wIl, wIt, wIr1, wIr2, wSlS, wPop, wAppPop, R.wk, R.st, R.ar, R.bl, R.no, R.sq, R.slot, setsR, startR, List.map_cons, List.map_nil, List.cons_append, List.nil_append, List.length_cons, List.length_nil, List.replicate, List.getElem?_cons_zero, List.getElem?_cons_succ, Option.some.injEq, exists_eq_left', exists_eq_left, R.d.injEq, R.own.injEq, R.fr.injEq, List.set_cons_zero, List.set_cons_succ, addD, subD, mulDD, fdivD, modD, ltD, leD, gtD, geD, eqD, neD, isND, isnotND, inDD, notInDD, ixD, negD, lenD, absD, intD, min2D, max2D, listD, tupleD, slD, Nat.reduceAdd, Nat.reduceSub, Nat.add_zero, Nat.zero_add, true_and, and_true, ite_true, ite_false, if_true, if_false, Bool.false_eq_true, reduceIte, Option.some_inj, Bool.true_eq_false, tgW, tgWs, wipe3, List.set_nil, set_map])
    exact h
theorem ok_law_done (D : Txt K mg base T) : Cal false P w K mg base T 1 "_law_done" C_law_done :=
  cal_of (wb := w_law_done) D.d_law_done sc_law_done bi_law_done l_law_done (fun f cdv A outer s H E hp hr hgd => ess_cons (es_par (i := 3) (j := 4) rfl sc_law_done.nd rfl rfl (by decide) rfl rfl (ep_cons (ev_callTy cr_list rfl D.n_list bb_list (el_cons selW (ev_var (pv 1)) (el_nil))) (ep_cons (ev_ix ix_D (ev_var (pv 2)) (ev_int) (fun _ _ => rfl)) (ep_nil))) rfl) (ess_cons (es_if (et_cmp (op_eqT (u64 hr)) (ev_ix ix_D (ev_var (pv 2)) (ev_int) (fun _ _ => rfl)) (ev_str) (nomark _)) (ess_cons (es_set (i := 5) sc_law_done.nd rfl (by first | exact Or.inl rfl | exact Or.inr rfl) (ev_callB (cr_min2 rfl) rfl D.n_min bb_min (el_cons selW (ev_ix ix_D (ev_var (pv 1)) (ev_var (pv 4)) (fun _ _ => rfl)) (el_cons selW (ev_op op_subD (ev_ix ix_D (ev_var (pv 0)) (ev_ix ix_D (ev_var (pv 2)) (ev_int) (fun _ _ => rfl)) (fun _ _ => rfl)) (ev_ix ix_D (ev_var (pv 1)) (ev_ix ix_D (ev_var (pv 2)) (ev_int) (fun _ _ => rfl)) (fun _ _ => rfl))) (el_nil))))) (ess_cons (es_setIx (ev_op op_subD (ev_ix ix_D (ev_var (pv 1)) (ev_var (pv 4)) (fun _ _ => rfl)) (ev_var (pv 5))) (pv 3) (ev_var (pv 4))) (ess_one (es_setIx (ev_op op_addD (ev_ix ix_D (ev_var (pv 1)) (ev_ix ix_D (ev_var (pv 2)) (ev_int) (fun _ _ => rfl)) (fun _ _ => rfl)) (ev_var (pv 5))) (pv 3) (ev_ix ix_D (ev_var (pv 2)) (ev_int) (fun _ _ => rfl)))))) (ess_one (es_setIx (ev_if (et_cmp (op_eqT (u64 hr)) (ev_ix ix_D (ev_var (pv 2)) (ev_int) (fun _ _ => rfl)) (ev_str) (nomark _)) (ev_ix ix_D (ev_var (pv 0)) (ev_var (pv 4)) (fun _ _ => rfl)) (ev_int)) (pv 3) (ev_var (pv 4))))) (ess_one (es_ret (ev_callTy cr_tuple rfl D.n_tuple bb_tuple (el_cons selW (ev_var (pv 3)) (el_nil))))))) p_law_done
/-! ### _law_no_jugs -/
abbrev N_law_no_jugs : List Str := ["hand", "some"]
theorem sc_law_no_jugs : FnScope N_law_no_jugs ["hand"] (defScope s_law_no_jugs) := ⟨rfl, rfl, rfl, by decide +kernel, rfl, by decide +kernel, by decide +kernel⟩
theorem bi_law_no_jugs : BindsBy "_law_no_jugs" s_law_no_jugs ["hand"] := fun _ _ _ _ _ _ us hl => match us, hl with | [_], _ => rfl
def w_law_no_jugs : WS := wSeq (wSet 1 (wLst (wCons R.st (wC .none) (wCons R.st (wC (.int 0)) (wCons R.st (wTup (wNil)) (wCons R.st (wLst (wCons R.st (wC (.int 3)) (wCons R.st (wC (.int 5)) (wNil)))) (wCons R.st (wTup (wCons R.st (wC (.int 0)) (wNil))) (wCons R.st (wTup (wCons R.st (wC (.int 13)) (wNil))) (wCons R.st (wTup (wCons R.st (wC (.int 3)) (wCons R.st (wUn negD (wC (.int 1))) (wNil)))) (wCons R.st (wTup (wCons R.st (wC (.bool true)) (wNil))) (wCons R.st (wTup (wCons R.st (wC (.str "3")) (wNil))) (wCons R.st (wTup (wCons R.st (wC .none) (wNil))) (wCons R.st (wOp mulDD (wTup (wCons R.st (wC (.int 1)) (wNil))) (wC (.int 5))) (wCons R.st (wC (.dict [])) (wCons R.st (wC (.str "35")) (wNil)))))))))))))))) (wRet (wFn C_law_any (wRcons (wV 0) (wRcons (wOp addD (wV 1) (wLst (wCons R.st (wTup (wCons R.st (wTup (wCons R.st (wC (.int 3)) (wNil))) (wNil))) (wNil)))) (wRnil)))))
def C_law_no_jugs : Ct := fun rs Q _ => rs = [.hand L_hand] ∧ ∀ x, okJugs x = false → Q (.d x)
theorem l_law_no_jugs : ∀ rs Q X, C_law_no_jugs rs Q X → rs.length = 1 := by
  rintro rs Q X ⟨rfl, _⟩
  rfl
theorem p_law_no_jugs : ∀ rs Q X, C_law_no_jugs rs Q X → w_law_no_jugs ⟨fun _ => Q (.d .none), Q, fun _ => False, fun _ => False⟩ (startR N_law_no_jugs rs) X := by
  rintro rs Q X ⟨rfl, h⟩
  (try simp only [sumDD, eqS, reprD, wV, wC, wNil, wCons, wTup, wLst, wOp, wUn, wCall, wT, wNot, wAnd, wOr, wB, wAndV, wOrV, wNotV, wIf, wIsi, wChain, wNo, wPart, wSl, wSet, wSetO, wTg, wPnil, wPcons, wPar, wNext, wSeq, wRet, wRetO, wRetN, wIfS, wBrk, wCnt, wDrop, wFrz, wApp, wExt, wSetIx, wAugIx, wAug, wRnil, wRcons, wFn, wRaise, wWord, wRetH, wSetIxH, wCount, wIndex, wIsE, wListRg1, wListRg2, wYes, wIs, wIz, wIl, wIt, wIr1, wIr2, wSlS, wPop, wAppPop, R.wk, R.st, R.ar, R.bl, R.no, R.sq, R.slot, setsR, startR, List.map_cons, List.map_nil, List.cons_append, List.nil_append, List.length_cons, List.length_nil, List.replicate, List.getElem?_cons_zero, List.getElem?_cons_succ, Option.some.injEq, exists_eq_left', exists_eq_left, R.d.injEq, R.own.injEq, R.fr.injEq, List.set_cons_zero, List.set_cons_succ, addD, subD, mulDD, fdivD, modD, ltD, leD, gtD, geD, eqD, neD, isND, isnotND, inDD, notInDD, ixD, negD, lenD, absD, intD, min2D, max2D, listD, tupleD, slD, Nat.reduceAdd, Nat.reduceSub, Nat.add_zero, Nat.zero_add, true_and, and_true, ite_true, ite_false, if_true, if_false, Bool.false_eq_true, reduceIte, Option.some_inj, Bool.true_eq_false, tgW, tgWs, wipe3, List.set_nil, w_law_no_jugs, C_law_any])
  refine ⟨⟨by decide, by decide, by decide⟩, by rw [sizeLine_eq]; omega, _, rfl, by decide, by decide, fun x hx => h x ?_⟩
  exact (by decide +kernel : ∀ x ∈ [PyData.none, PyData.int 0, PyData.tuple [], PyData.list [PyData.int 3, PyData.int 5], PyData.tuple [PyData.int 0], PyData.tuple [PyData.int 13], PyData.tuple [PyData.int 3, PyData.int (-1)], PyData.tuple [PyData.bool true],
    PyData.tuple [PyData.str "3"], PyData.tuple [PyData.none], PyData.tuple (List.replicate (Int.toNat 5) [PyData.int 1]).flatten, PyData.dict [], PyData.str "35", PyData.tuple [PyData.tuple [PyData.int 3]]], okJugs x = false) x hx
theorem ok_law_no_jugs (D : Txt K mg base T) : Cal false P w K mg base T 3 "_law_no_jugs" C_law_no_jugs :=
  cal_of (wb := w_law_no_jugs) D.d_law_no_jugs sc_law_no_jugs bi_law_no_jugs l_law_no_jugs (fun f cdv A outer s H E hp hr hgd => ess_cons (es_set (i := 1) sc_law_no_jugs.nd rfl (by first | exact Or.inl rfl | exact Or.inr rfl) (ev_lst (el_cons selS (ev_non) (el_cons selS (ev_int) (el_cons selS (ev_tup (el_nil)) (el_cons selS (ev_lst (el_cons selS (ev_int) (el_cons selS (ev_int) (el_nil)))) (el_cons selS (ev_tup (el_cons selS (ev_int) (el_nil))) (el_cons selS (ev_tup (el_cons selS (ev_int) (el_nil))) (el_cons selS (ev_tup (el_cons selS (ev_int) (el_cons selS (ev_un un_negD (ev_int)) (el_nil)))) (el_cons selS (ev_tup (el_cons selS (ev_bl) (el_nil))) (el_cons selS (ev_tup (el_cons selS (ev_str) (el_nil))) (el_cons selS (ev_tup (el_cons selS (ev_non) (el_nil))) (el_cons selS (ev_op op_mulDD (ev_tup (el_cons selS (ev_int) (el_nil))) (ev_int)) (el_cons selS (ev_dct0) (el_cons selS (ev_str) (el_nil)))))))))))))))) (ess_one (es_ret (ev_fnC (ok_law_any D) hr (by decide) (fun h => by cases h) rfl pass_cx (er_cons (ev_var (pv 0)) (er_cons (ev_op op_addD (ev_var (pv 1)) (ev_lst (el_cons selS (ev_tup (el_cons selS (ev_tup (el_cons selS (ev_int) (el_nil))) (el_nil))) (el_nil)))) (er_nil))))))) p_law_no_jugs
/-! ### _law_no_deed -/
abbrev N_law_no_deed : List Str := ["hand", "many", "some"]
theorem sc_law_no_deed : FnScope N_law_no_deed ["hand", "many"] (defScope s_law_no_deed) := ⟨rfl, rfl, rfl, by decide +kernel, rfl, by decide +kernel, by decide +kernel⟩
theorem bi_law_no_deed : BindsBy "_law_no_deed" s_law_no_deed ["hand", "many"] := fun _ _ _ _ _ _ us hl => match us, hl with | [_, _], _ => rfl
def w_law_no_deed : WS := wSeq (wSet 2 (wLst (wCons R.st (wC .none) (wCons R.st (wC (.int 0)) (wCons R.st (wTup (wNil)) (wCons R.st (wTup (wCons R.st (wC (.str "fill")) (wNil))) (wCons R.st (wTup (wCons R.st (wC (.str "fill")) (wCons R.st (wV 1) (wNil)))) (wCons R.st (wTup (wCons R.st (wC (.str "fill")) (wCons R.st (wUn negD (wC (.int 1))) (wNil)))) (wCons R.st (wLst (wCons R.st (wC (.str "fill")) (wCons R.st (wC (.int 0)) (wNil)))) (wCons R.st (wTup (wCons R.st (wC (.str "Fill")) (wCons R.st (wC (.int 0)) (wNil)))) (wCons R.st (wTup (wCons R.st (wC (.str "pour")) (wCons R.st (wC (.int 0)) (wNil)))) (wNil)))))))))))) (wSeq (wSet 2 (wOp addD (wV 2) (wLst (wCons R.st (wTup (wCons R.st (wC (.str "pour")) (wCons R.st (wC (.int 0)) (wCons R.st (wV 1) (wNil))))) (wCons R.st (wTup (wCons R.st (wC (.str "fill")) (wCons R.st (wC (.bool true)) (wNil)))) (wCons R.st (wTup (wCons R.st (wC (.str "fill")) (wCons R.st (wC (.int 0)) (wCons R.st (wC (.int 0)) (wNil))))) (wCons R.st (wTup (wCons R.st (wC (.int 0)) (wCons R.st (wC (.str "fill")) (wNil)))) (wCons R.st (wC (.str "fill")) (wCons R.st (wC (.dict [])) (wCons R.st (wTup (wCons R.st (wC (.str "empty")) (wCons R.st (wC .none) (wNil)))) (wNil))))))))))) (wRet (wFn C_law_any (wRcons (wV 0) (wRcons (wOp addD (wV 2) (wLst (wCons R.st (wTup (wCons R.st (wC (.str "pour")) (wCons R.st (wC (.int 0)) (wCons R.st (wC .none) (wNil))))) (wCons R.st (wTup (wCons R.st (wC (.str "pour")) (wCons R.st (wC (.int 0)) (wCons R.st (wC (.int 0)) (wNil))))) (wNil))))) (wRnil))))))
def C_law_no_deed : Ct := fun rs Q _ => ∃ n : Nat, rs = [.hand L_hand, .d (.int n)] ∧ 1 ≤ n ∧ n ≤ 3 ∧ ∀ z, deedOk n z = false → headOk z → Q (.d z)
theorem l_law_no_deed : ∀ rs Q X, C_law_no_deed rs Q X → rs.length = 2 := by
  rintro rs Q X ⟨_, rfl, _⟩
  rfl
def headB (y : PyData) : Bool := match y with
  | .tuple (.str k :: _) => SeqAt.shaped (.str k)
  | _ => true
theorem head_of {y : PyData} (h : headB y = true) : headOk y := by
  intro k r e
  subst e
  exact h
def badD (n : Int) : List PyData := [.none, .int 0, .tuple [], .tuple [.str "fill"], .tuple [.str "fill", .int n], .tuple [.str "fill", .int (-1)], .list [.str "fill", .int 0], .tuple [.str "Fill", .int 0], .tuple [.str "pour", .int 0], .tuple [.str "pour", .int 0, .int n],
  .tuple [.str "fill", .bool true], .tuple [.str "fill", .int 0, .int 0], .tuple [.int 0, .str "fill"], .str "fill", .dict [], .tuple [.str "empty", .none], .tuple [.str "pour", .int 0, .none], .tuple [.str "pour", .int 0, .int 0]]
theorem badD_1 : ∀ z ∈ badD 1, deedOk 1 z = false ∧ headB z = true := by decide +kernel
theorem badD_2 : ∀ z ∈ badD 2, deedOk 2 z = false ∧ headB z = true := by decide +kernel
theorem badD_3 : ∀ z ∈ badD 3, deedOk 3 z = false ∧ headB z = true := by decide +kernel
theorem p_law_no_deed : ∀ rs Q X, C_law_no_deed rs Q X → w_law_no_deed ⟨fun _ => Q (.d .none), Q, fun _ => False, fun _ => False⟩ (startR N_law_no_deed rs) X := by
  rintro rs Q X ⟨n, rfl, n1, n3, h⟩
  (try simp only [sumDD, eqS, reprD, wV, wC, wNil, wCons, wTup, wLst, wOp, wUn, wCall, wT, wNot, wAnd, wOr, wB, wAndV, wOrV, wNotV, wIf, wIsi, wChain, wNo, wPart, wSl, wSet, wSetO, wTg, wPnil, wPcons, wPar, wNext, wSeq, wRet, wRetO, wRetN, wIfS, wBrk, wCnt, wDrop, wFrz, wApp, wExt, wSetIx, wAugIx, wAug, wRnil, wRcons, wFn, wRaise, wWord, wRetH, wSetIxH, wCount, wIndex, wIsE, wListRg1, wListRg2, wYes, wIs, wIz, wIl, wIt, wIr1, wIr2, wSlS, wPop, wAppPop, R.wk, R.st, R.ar, R.bl, R.no, R.sq, R.slot, setsR, startR, List.map_cons, List.map_nil, List.cons_append, List.nil_append, List.length_cons, List.length_nil, List.replicate, List.getElem?_cons_zero, List.getElem?_cons_succ, Option.some.injEq, exists_eq_left', exists_eq_left, R.d.injEq, R.own.injEq, R.fr.injEq, List.set_cons_zero, List.set_cons_succ, addD, subD, mulDD, fdivD, modD, ltD, leD, gtD, geD, eqD, neD, isND, isnotND, inDD, notInDD, ixD, negD, lenD, absD, intD, min2D, max2D, listD, tupleD, slD, Nat.reduceAdd, Nat.reduceSub, Nat.add_zero, Nat.zero_add, true_and, and_true, ite_true, ite_false, if_true, if_false, Bool.false_eq_true, reduceIte, Option.some_inj, Bool.true_eq_false, tgW, tgWs, wipe3, List.set_nil, w_law_no_deed, C_law_any])
  refine ⟨by rw [sizeLine_eq]; omega, by rw [sizeLine_eq]; omega, badD n, rfl, by show (0 : Nat) < 18; omega, by show (18 : Nat) < _; omega, fun z hz => ?_⟩
  have key : deedOk n z = false ∧ headB z = true := by
    obtain rfl | rfl | rfl : n = 1 ∨ n = 2 ∨ n = 3 := by omega
    · exact badD_1 z hz
    · exact badD_2 z hz
    · exact badD_3 z hz
  exact h z key.1 (head_of key.2)
theorem ok_law_no_deed (D : Txt K mg base T) : Cal false P w K mg base T 3 "_law_no_deed" C_law_no_deed :=
  cal_of (wb := w_law_no_deed) D.d_law_no_deed sc_law_no_deed bi_law_no_deed l_law_no_deed (fun f cdv A outer s H E hp hr hgd => ess_cons (es_set (i := 2) sc_law_no_deed.nd rfl (by first | exact Or.inl rfl | exact Or.inr rfl) (ev_lst (el_cons selS (ev_non) (el_cons selS (ev_int) (el_cons selS (ev_tup (el_nil)) (el_cons selS (ev_tup (el_cons selS (ev_str) (el_nil))) (el_cons selS (ev_tup (el_cons selS (ev_str) (el_cons selS (ev_var (pv 1)) (el_nil)))) (el_cons selS (ev_tup (el_cons selS (ev_str) (el_cons selS (ev_un un_negD (ev_int)) (el_nil)))) (el_cons selS (ev_lst (el_cons selS (ev_str) (el_cons selS (ev_int) (el_nil)))) (el_cons selS (ev_tup (el_cons selS (ev_str) (el_cons selS (ev_int) (el_nil)))) (el_cons selS (ev_tup (el_cons selS (ev_str) (el_cons selS (ev_int) (el_nil)))) (el_nil)))))))))))) (ess_cons (es_set (i := 2) sc_law_no_deed.nd rfl (by first | exact Or.inl rfl | exact Or.inr rfl) (ev_op op_addD (ev_var (pv 2)) (ev_lst (el_cons selS (ev_tup (el_cons selS (ev_str) (el_cons selS (ev_int) (el_cons selS (ev_var (pv 1)) (el_nil))))) (el_cons selS (ev_tup (el_cons selS (ev_str) (el_cons selS (ev_bl) (el_nil)))) (el_cons selS (ev_tup (el_cons selS (ev_str) (el_cons selS (ev_int) (el_cons selS (ev_int) (el_nil))))) (el_cons selS (ev_tup (el_cons selS (ev_int) (el_cons selS (ev_str) (el_nil)))) (el_cons selS (ev_str) (el_cons selS (ev_dct0) (el_cons selS (ev_tup (el_cons selS (ev_str) (el_cons selS (ev_non) (el_nil)))) (el_nil))))))))))) (ess_one (es_ret (ev_fnC (ok_law_any D) hr (by decide) (fun h => by cases h) rfl pass_cx (er_cons (ev_var (pv 0)) (er_cons (ev_op op_addD (ev_var (pv 2)) (ev_lst (el_cons selS (ev_tup (el_cons selS (ev_str) (el_cons selS (ev_int) (el_cons selS (ev_non) (el_nil))))) (el_cons selS (ev_tup (el_cons selS (ev_str) (el_cons selS (ev_int) (el_cons selS (ev_int) (el_nil))))) (el_nil))))) (er_nil)))))))) p_law_no_deed
/-! ### _law_word_of -/
abbrev N_law_word_of : List Str := ["call", "error", "flags", "words"]
theorem sc_law_word_of : FnScope N_law_word_of ["call"] (defScope s_law_word_of) := ⟨rfl, rfl, rfl, by decide +kernel, rfl, by decide +kernel, by decide +kernel⟩
theorem bi_law_word_of : BindsBy "_law_word_of" s_law_word_of ["call"] := fun _ _ _ _ _ _ us hl => match us, hl with | [_], _ => rfl
theorem va_law_word_of : Vis (defScope s_law_word_of) "call" := by first | exact Or.inl rfl | exact Or.inr (Or.inl rfl)
def told_law_word_of : Str := "told"
def ws_law_word_of (a : Addr) (y : Exc) : WS := wSeq (wIfS (wNot (wT (wIsE 1 a true))) (wRet (wC (.str "other"))) (wNext)) (wSeq (wIfS (wT (wIsE 1 a (isa y.name "TooMany"))) ((fun _ _ _ => False)) (wNext)) (wSeq (wSet 2 (wLst (wCons R.st (wIsE 1 a (isa y.name "NoJugs")) (wCons R.st (wIsE 1 a (isa y.name "NoFilling")) (wCons R.st (wIsE 1 a (isa y.name "NoDeed")) (wNil)))))) (wSeq (wSet 2 (wOp addD (wV 2) (wLst (wCons R.st (wIsE 1 a (isa y.name "NoDeeds")) (wNil))))) (wSeq (wSet 3 (wLst (wCons R.st (wC (.str "jugs")) (wCons R.st (wC (.str "filling")) (wCons R.st (wC (.str "deed")) (wCons R.st (wC (.str "deeds")) (wNil))))))) (wRet (wIf (wT (wOp eqD (wCount (wV 2) (wC (.bool true))) (wC (.int 1)))) (wOp ixD (wV 3) (wIndex (wV 2) (wC (.bool true)))) (wC (.str "other"))))))))
def wd_law_word_of (x : Exc) : Option Str := match x.arg with
  | some _ => none
  | none => if x.name = "NoJugs" then some "jugs" else if x.name = "NoFilling" then some "filling" else if x.name = "NoDeed" then some "deed" else if x.name = "NoDeeds" then some "deeds" else none
theorem wd_arg_law_word_of {y : Exc} {z : Str} (h : wd_law_word_of y = some z) : y.arg = none := by
  unfold wd_law_word_of at h
  split at h
  · cases h
  · assumption
theorem wd_cases {y : Exc} {z : Str} (h : wd_law_word_of y = some z) : (y.name = "NoJugs" ∧ z = "jugs") ∨ (y.name = "NoFilling" ∧ z = "filling") ∨ (y.name = "NoDeed" ∧ z = "deed") ∨ (y.name = "NoDeeds" ∧ z = "deeds") := by
  unfold wd_law_word_of at h
  split at h
  · cases h
  · by_cases h1 : y.name = "NoJugs"
    · rw [if_pos h1] at h
      cases h
      exact .inl ⟨h1, rfl⟩
    · rw [if_neg h1] at h
      by_cases h2 : y.name = "NoFilling"
      · rw [if_pos h2] at h
        cases h
        exact .inr (.inl ⟨h2, rfl⟩)
      · rw [if_neg h2] at h
        by_cases h3 : y.name = "NoDeed"
        · rw [if_pos h3] at h
          cases h
          exact .inr (.inr (.inl ⟨h3, rfl⟩))
        · rw [if_neg h3] at h
          by_cases h4 : y.name = "NoDeeds"
          · rw [if_pos h4] at h
            cases h
            exact .inr (.inr (.inr ⟨h4, rfl⟩))
          · rw [if_neg h4] at h
            cases h
theorem wd_err_law_word_of {y : Exc} {z : Str} (h : wd_law_word_of y = some z) : y.name ∈ errL := by
  rcases wd_cases h with ⟨e, _⟩ | ⟨e, _⟩ | ⟨e, _⟩ | ⟨e, _⟩ <;> rw [e] <;> decide +kernel
theorem isa_t (x y : Str) (b : Bool) (h : (x == y || y == "KitchenError") = b) : isa x y = b := h
theorem p_law_word_of : ∀ (a : Addr) (y : Exc) (z : Str), wd_law_word_of y = some z → ws_law_word_of a y { nx := fun _ => False, rt := fun r => r = .d (.str z) } (errR N_law_word_of.length 1 a) noX := by
  intro a y z h
  have e0 : errR N_law_word_of.length 1 a = [none, some (.adr a), none, none] := rfl
  rw [e0]
  rcases wd_cases h with ⟨e, rfl⟩ | ⟨e, rfl⟩ | ⟨e, rfl⟩ | ⟨e, rfl⟩
  · have f1 : isa y.name "TooMany" = false := by rw [e]; decide +kernel
    have f2 : isa y.name "NoJugs" = true := by rw [e]; decide +kernel
    have f3 : isa y.name "NoFilling" = false := by rw [e]; decide +kernel
    have f4 : isa y.name "NoDeed" = false := by rw [e]; decide +kernel
    have f5 : isa y.name "NoDeeds" = false := by rw [e]; decide +kernel
    (try simp only [sumDD, eqS, reprD, wV, wC, wNil, wCons, wTup, wLst, wOp, wUn, wCall, wT, wNot, wAnd, wOr, wB, wAndV, wOrV, wNotV, wIf, wIsi, wChain, wNo, wPart, wSl, wSet, wSetO, wTg, wPnil, wPcons, wPar, wNext, wSeq, wRet, wRetO, wRetN, wIfS, wBrk, wCnt, wDrop, wFrz, wApp, wExt, wSetIx, wAugIx, wAug, wRnil, wRcons, wFn, wRaise, wWord, wRetH, wSetIxH, wCount, wIndex, wIsE, wListRg1, wListRg2, wYes, wIs, wIz, wIl, wIt, wIr1, wIr2, wSlS, wPop, wAppPop, R.wk, R.st, R.ar, R.bl, R.no, R.sq, R.slot, setsR, startR, List.map_cons, List.map_nil, List.cons_append, List.nil_append, List.length_cons, List.length_nil, List.replicate, List.getElem?_cons_zero, List.getElem?_cons_succ, Option.some.injEq, exists_eq_left', exists_eq_left, R.d.injEq, R.own.injEq, R.fr.injEq, List.set_cons_zero, List.set_cons_succ, addD, subD, mulDD, fdivD, modD, ltD, leD, gtD, geD, eqD, neD, isND, isnotND, inDD, notInDD, ixD, negD, lenD, absD, intD, min2D, max2D, listD, tupleD, slD, Nat.reduceAdd, Nat.reduceSub, Nat.add_zero, Nat.zero_add, true_and, and_true, ite_true, ite_false, if_true, if_false, Bool.false_eq_true, reduceIte, Option.some_inj, Bool.true_eq_false, tgW, tgWs, wipe3, List.set_nil, ws_law_word_of, f1, f2, f3, f4, f5, R.adr.injEq, Bool.not_true])
    refine ⟨by rw [sizeLine_eq]; omega, rfl, rfl, rfl, rfl, ?_⟩
    rw [if_pos (by decide +kernel)]
    refine ⟨rfl, rfl, 0, _, rfl, by decide +kernel, fun m z' hm e => ?_, _, at0 _ _, rfl⟩
    omega
  · have f1 : isa y.name "TooMany" = false := by rw [e]; decide +kernel
    have f2 : isa y.name "NoJugs" = false := by rw [e]; decide +kernel
    have f3 : isa y.name "NoFilling" = true := by rw [e]; decide +kernel
    have f4 : isa y.name "NoDeed" = false := by rw [e]; decide +kernel
    have f5 : isa y.name "NoDeeds" = false := by rw [e]; decide +kernel
    (try simp only [sumDD, eqS, reprD, wV, wC, wNil, wCons, wTup, wLst, wOp, wUn, wCall, wT, wNot, wAnd, wOr, wB, wAndV, wOrV, wNotV, wIf, wIsi, wChain, wNo, wPart, wSl, wSet, wSetO, wTg, wPnil, wPcons, wPar, wNext, wSeq, wRet, wRetO, wRetN, wIfS, wBrk, wCnt, wDrop, wFrz, wApp, wExt, wSetIx, wAugIx, wAug, wRnil, wRcons, wFn, wRaise, wWord, wRetH, wSetIxH, wCount, wIndex, wIsE, wListRg1, wListRg2, wYes, wIs, wIz, wIl, wIt, wIr1, wIr2, wSlS, wPop, wAppPop, R.wk, R.st, R.ar, R.bl, R.no, R.sq, R.slot, setsR, startR, List.map_cons, List.map_nil, List.cons_append, List.nil_append, List.length_cons, List.length_nil, List.replicate, List.getElem?_cons_zero, List.getElem?_cons_succ, Option.some.injEq, exists_eq_left', exists_eq_left, R.d.injEq, R.own.injEq, R.fr.injEq, List.set_cons_zero, List.set_cons_succ, addD, subD, mulDD, fdivD, modD, ltD, leD, gtD, geD, eqD, neD, isND, isnotND, inDD, notInDD, ixD, negD, lenD, absD, intD, min2D, max2D, listD, tupleD, slD, Nat.reduceAdd, Nat.reduceSub, Nat.add_zero, Nat.zero_add, true_and, and_true, ite_true, ite_false, if_true, if_false, Bool.false_eq_true, reduceIte, Option.some_inj, Bool.true_eq_false, tgW, tgWs, wipe3, List.set_nil, ws_law_word_of, f1, f2, f3, f4, f5, R.adr.injEq, Bool.not_true])
    refine ⟨by rw [sizeLine_eq]; omega, rfl, rfl, rfl, rfl, ?_⟩
    rw [if_pos (by decide +kernel)]
    refine ⟨rfl, rfl, 1, _, rfl, by decide +kernel, fun m z' hm e => ?_, _, at1 _ _ _, rfl⟩
    obtain rfl := (by omega : m = 0)
    cases e
    rfl
  · have f1 : isa y.name "TooMany" = false := by rw [e]; decide +kernel
    have f2 : isa y.name "NoJugs" = false := by rw [e]; decide +kernel
    have f3 : isa y.name "NoFilling" = false := by rw [e]; decide +kernel
    have f4 : isa y.name "NoDeed" = true := by rw [e]; decide +kernel
    have f5 : isa y.name "NoDeeds" = false := by rw [e]; decide +kernel
    (try simp only [sumDD, eqS, reprD, wV, wC, wNil, wCons, wTup, wLst, wOp, wUn, wCall, wT, wNot, wAnd, wOr, wB, wAndV, wOrV, wNotV, wIf, wIsi, wChain, wNo, wPart, wSl, wSet, wSetO, wTg, wPnil, wPcons, wPar, wNext, wSeq, wRet, wRetO, wRetN, wIfS, wBrk, wCnt, wDrop, wFrz, wApp, wExt, wSetIx, wAugIx, wAug, wRnil, wRcons, wFn, wRaise, wWord, wRetH, wSetIxH, wCount, wIndex, wIsE, wListRg1, wListRg2, wYes, wIs, wIz, wIl, wIt, wIr1, wIr2, wSlS, wPop, wAppPop, R.wk, R.st, R.ar, R.bl, R.no, R.sq, R.slot, setsR, startR, List.map_cons, List.map_nil, List.cons_append, List.nil_append, List.length_cons, List.length_nil, List.replicate, List.getElem?_cons_zero, List.getElem?_cons_succ, Option.some.injEq, exists_eq_left', exists_eq_left, R.d.injEq, R.own.injEq, R.fr.injEq, List.set_cons_zero, List.set_cons_succ, addD, subD, mulDD, fdivD, modD, ltD, leD, gtD, geD, eqD, neD, isND, isnotND, inDD, notInDD, ixD, negD, lenD, absD, intD, min2D, max2D, listD, tupleD, slD, Nat.reduceAdd, Nat.reduceSub, Nat.add_zero, Nat.zero_add, true_and, and_true, ite_true, ite_false, if_true, if_false, Bool.false_eq_true, reduceIte, Option.some_inj, Bool.true_eq_false, tgW, tgWs, wipe3, List.set_nil, ws_law_word_of, f1, f2, f3, f4, f5, R.adr.injEq, Bool.not_true])
    refine ⟨by rw [sizeLine_eq]; omega, rfl, rfl, rfl, rfl, ?_⟩
    rw [if_pos (by decide +kernel)]
    refine ⟨rfl, rfl, 2, _, rfl, by decide +kernel, fun m z' hm e => ?_, _, at2 _ _ _ _, rfl⟩
    obtain rfl | rfl := (by omega : m = 0 ∨ m = 1)
    · cases e
      rfl
    · cases e
      rfl
  · have f1 : isa y.name "TooMany" = false := by rw [e]; decide +kernel
    have f2 : isa y.name "NoJugs" = false := by rw [e]; decide +kernel
    have f3 : isa y.name "NoFilling" = false := by rw [e]; decide +kernel
    have f4 : isa y.name "NoDeed" = false := by rw [e]; decide +kernel
    have f5 : isa y.name "NoDeeds" = true := by rw [e]; decide +kernel
    (try simp only [sumDD, eqS, reprD, wV, wC, wNil, wCons, wTup, wLst, wOp, wUn, wCall, wT, wNot, wAnd, wOr, wB, wAndV, wOrV, wNotV, wIf, wIsi, wChain, wNo, wPart, wSl, wSet, wSetO, wTg, wPnil, wPcons, wPar, wNext, wSeq, wRet, wRetO, wRetN, wIfS, wBrk, wCnt, wDrop, wFrz, wApp, wExt, wSetIx, wAugIx, wAug, wRnil, wRcons, wFn, wRaise, wWord, wRetH, wSetIxH, wCount, wIndex, wIsE, wListRg1, wListRg2, wYes, wIs, wIz, wIl, wIt, wIr1, wIr2, wSlS, wPop, wAppPop, R.wk, R.st, R.ar, R.bl, R.no, R.sq, R.slot, setsR, startR, List.map_cons, List.map_nil, List.cons_append, List.nil_append, List.length_cons, List.length_nil, List.replicate, List.getElem?_cons_zero, List.getElem?_cons_succ, Option.some.injEq, exists_eq_left', exists_eq_left, R.d.injEq, R.own.injEq, R.fr.injEq, List.set_cons_zero, List.set_cons_succ, addD, subD, mulDD, fdivD, modD, ltD, leD, gtD, geD, eqD, neD, isND, isnotND, inDD, notInDD, ixD, negD, lenD, absD, intD, min2D, max2D, listD, tupleD, slD, Nat.reduceAdd, Nat.reduceSub, Nat.add_zero, Nat.zero_add, true_and, and_true, ite_true, ite_false, if_true, if_false, Bool.false_eq_true, reduceIte, Option.some_inj, Bool.true_eq_false, tgW, tgWs, wipe3, List.set_nil, ws_law_word_of, f1, f2, f3, f4, f5, R.adr.injEq, Bool.not_true])
    refine ⟨by rw [sizeLine_eq]; omega, rfl, rfl, rfl, rfl, ?_⟩
    rw [if_pos (by decide +kernel)]
    refine ⟨rfl, rfl, 3, _, rfl, by decide +kernel, fun m z' hm e => ?_, _, at3 _ _ _ _ _, rfl⟩
    obtain rfl | rfl | rfl := (by omega : m = 0 ∨ m = 1 ∨ m = 2)
    · cases e
      rfl
    · cases e
      rfl
    · cases e
      rfl
theorem gv_law_word_of {X : Cx} {T : List (Addr × Str)} {k : Nat} {q : Str} (D : Txt X.K X.mg X.base T) (hr : Room k X.A) : ∀ g cdv, GivesTo X N_law_word_of "_law_word_of" (defScope s_law_word_of) g cdv (defBody s_law_word_of) "call" q (TWord (pm X T) told_law_word_of wd_law_word_of) := by
  intro g cdv
  obtain ⟨C_KitchenError, g_KitchenError⟩ := D.k_KitchenError
  obtain ⟨C_NoDeed, g_NoDeed⟩ := D.k_NoDeed
  obtain ⟨C_NoDeeds, g_NoDeeds⟩ := D.k_NoDeeds
  obtain ⟨C_NoFilling, g_NoFilling⟩ := D.k_NoFilling
  obtain ⟨C_NoJugs, g_NoJugs⟩ := D.k_NoJugs
  obtain ⟨C_TooMany, g_TooMany⟩ := D.k_TooMany
  refine word_rets (CK := C_KitchenError) (i := 1) (ws := ws_law_word_of) sc_law_word_of.nd rfl (fun s H => rfl) rfl (by decide) g_KitchenError (fun f => rfl) (fun s H a oe cls d pn hz hf y hy => ?_) (fun y z C hz hC => ?_) (fun y z hz => wd_arg_law_word_of hz) (fun a y z hz => p_law_word_of a y z hz)
  · obtain ⟨⟨z, hz'⟩, _, C, hC, rfl, rfl⟩ := hy
    obtain ⟨C', CK', e1, e2, F1, F2, F3, F4'⟩ := (D.errs y.name (wd_err_law_word_of hz')).ex
    have e3 := hC.symm.trans e1
    cases e3
    have F4 : ∀ (n : Str) (Y : Addr), n ∈ clsL → X.mg n = some (.ref Y) → PySem.W.kitOne X.K (.ref C) (.ref Y) = some (isa y.name n) := fun n Y hn hY => F4' (n, isa y.name n) (List.mem_map.mpr ⟨n, hn, rfl⟩) Y hY
    have hu : ((wCx X N_law_word_of "_law_word_of" (defScope s_law_word_of) g cdv s H).suite a ((a, oe) :: pn)).A.units + 65 < cLine := by
      have z := hr.un
      show X.A.units + 3 + 65 < cLine
      omega
    have hu64 : ((wCx X N_law_word_of "_law_word_of" (defScope s_law_word_of) g cdv s H).suite a ((a, oe) :: pn)).A.units + 64 < cLine := by omega
    exact ess_cons (es_if (et_not (et_val (ev_isE F1 hz hf rfl D.n_isinstance (pv 1) (pe_ve rfl D.n_ValueError) (fun _ h => h) F3))) (ess_one (es_ret (ev_str))) (ess_nil)) (ess_cons (es_if (et_val (ev_isE F1 hz hf rfl D.n_isinstance (pv 1) (pe_cls rfl g_TooMany) (fun _ h => h) (F4 "TooMany" _ (by decide +kernel) g_TooMany))) (ess_one (es_dead)) (ess_nil)) (ess_cons (es_set (i := 2) sc_law_word_of.nd rfl (by first | exact Or.inl rfl | exact Or.inr rfl) (ev_lst (el_cons selS (ev_isE F1 hz hf rfl D.n_isinstance (pv 1) (pe_cls rfl g_NoJugs) (fun _ h => h) (F4 "NoJugs" _ (by decide +kernel) g_NoJugs)) (el_cons selS (ev_isE F1 hz hf rfl D.n_isinstance (pv 1) (pe_cls rfl g_NoFilling) (fun _ h => h) (F4 "NoFilling" _ (by decide +kernel) g_NoFilling)) (el_cons selS (ev_isE F1 hz hf rfl D.n_isinstance (pv 1) (pe_cls rfl g_NoDeed) (fun _ h => h) (F4 "NoDeed" _ (by decide +kernel) g_NoDeed)) (el_nil)))))) (ess_cons (es_set (i := 2) sc_law_word_of.nd rfl (by first | exact Or.inl rfl | exact Or.inr rfl) (ev_op op_addD (ev_var (pv 2)) (ev_lst (el_cons selS (ev_isE F1 hz hf rfl D.n_isinstance (pv 1) (pe_cls rfl g_NoDeeds) (fun _ h => h) (F4 "NoDeeds" _ (by decide +kernel) g_NoDeeds)) (el_nil))))) (ess_cons (es_set (i := 3) sc_law_word_of.nd rfl (by first | exact Or.inl rfl | exact Or.inr rfl) (ev_lst (el_cons selS (ev_str) (el_cons selS (ev_str) (el_cons selS (ev_str) (el_cons selS (ev_str) (el_nil))))))) (ess_one (es_ret (ev_if (et_cmp (op_eqT hu64) (ev_count hu (ev_var (pv 2)) (ev_bl)) (ev_int) (nomark _)) (ev_ix ix_D (ev_var (pv 3)) (ev_index hu (ev_var (pv 2)) (ev_bl)) (fun _ _ => rfl)) (ev_str))))))))
  · obtain ⟨C', CK', e1, e2, F1, F2, F3, F4'⟩ := (D.errs y.name (wd_err_law_word_of hz)).ex
    have e3 := hC.symm.trans e1
    cases e3
    have e4 := g_KitchenError.symm.trans e2
    cases e4
    exact F2
/-! ### _law_is_right -/
abbrev N_law_is_right : List Str := ["hand", "jugs", "here", "drawn", "rows", "deeds", "step", "deed", "filling", "due", "at", "size"]
theorem sc_law_is_right : FnScope N_law_is_right ["hand", "jugs"] (defScope s_law_is_right) := ⟨rfl, rfl, rfl, by decide +kernel, rfl, by decide +kernel, by decide +kernel⟩
theorem bi_law_is_right : BindsBy "_law_is_right" s_law_is_right ["hand", "jugs"] := fun _ _ _ _ _ _ us hl => match us, hl with | [_, _], _ => rfl
def b3_law_is_right_2 : WS := wIfS (wAnd (wT (wOp eqD (wOp ixD (wV 7) (wC (.int 0))) (wC (.str "pour")))) (wT (wOp neD (wCall sumDD (wCons R.wk (wV 9) (wNil))) (wCall sumDD (wCons R.wk (wV 8) (wNil)))))) (wRet (wC (.bool false))) (wNext)
def b3_law_is_right_1 : WS := wSeq (wIfS (wNot (wT (wFn C_law_same (wRcons (wFn C_behind (wRcons (wV 1) (wRcons (wV 8) (wRcons (wV 7) (wRnil))))) (wRcons (wV 9) (wRnil)))))) (wRet (wC (.bool false))) (wNext)) (b3_law_is_right_2)
def b3_law_is_right : WS := wSeq (wSet 9 (wFn C_law_done (wRcons (wV 1) (wRcons (wV 8) (wRcons (wV 7) (wRnil)))))) (b3_law_is_right_1)
def b2_law_is_right : WS := wFor (wIt (wTup (wCons R.st (wV 2) (wCons R.st (wV 3) (wNil))))) (.one 8) (b3_law_is_right)
def b1_law_is_right_2 : WS := wSeq (wSet 2 (wFn C_law_done (wRcons (wV 1) (wRcons (wV 2) (wRcons (wV 7) (wRnil)))))) (wSeq (wApp 4 (wV 2)) (wApp 5 (wV 7)))
def b1_law_is_right_1 : WS := wSeq (wSet 7 (wFn C_law_any (wRcons (wV 0) (wRcons (wFn C_law_all_deeds (wRcons (wCall lenD (wCons R.wk (wV 1) (wNil))) (wRnil))) (wRnil))))) (b1_law_is_right_2)
def b1_law_is_right : WS := wSeq (wFor (wIs (wFn C_law_all_deeds (wRcons (wCall lenD (wCons R.wk (wV 1) (wNil))) (wRnil)))) (.one 7) (b2_law_is_right)) (b1_law_is_right_1)
def w_law_is_right_5 : WS := wRet (wOp eqD (wFn C_run_of (wRcons (wV 1) (wRcons (wCall tupleD (wCons R.wk (wSl (wV 5) wNo (wPart (wV 10))) (wNil))) (wRnil)))) (wCall tupleD (wCons R.wk (wSl (wV 4) wNo (wPart (wOp addD (wV 10) (wC (.int 1))))) (wNil))))
def w_law_is_right_4 : WS := wSeq (wSet 10 (wFn C_law_draw (wRcons (wV 0) (wRcons (wOp addD (wCall lenD (wCons R.wk (wV 5) (wNil))) (wC (.int 1))) (wRnil))))) (w_law_is_right_5)
def w_law_is_right_3 : WS := wSeq (wIfS (wOr (wNot (wT (wFn C_law_same (wRcons (wFn C_run_of (wRcons (wV 1) (wRcons (wCall tupleD (wCons R.wk (wV 5) (wNil))) (wRnil)))) (wRcons (wCall tupleD (wCons R.wk (wV 4) (wNil))) (wRnil)))))) (wT (wOp neD (wFn C_run_of (wRcons (wV 1) (wRcons (wTup (wNil)) (wRnil)))) (wTup (wCons R.st (wOp ixD (wV 4) (wC (.int 0))) (wNil)))))) (wRet (wC (.bool false))) (wNext)) (w_law_is_right_4)
def w_law_is_right_2 : WS := wSeq (wFor (wIr1 (wOp addD (wC (.int 1)) (wFn C_law_draw (wRcons (wV 0) (wRcons (wC (.int 10)) (wRnil)))))) (.one 6) (b1_law_is_right)) (w_law_is_right_3)
def w_law_is_right_1 : WS := wSeq (wPar [4, 5] (wPcons true (wLst (wCons R.st (wV 2) (wNil))) (wPcons true (wLst (wNil)) (wPnil)))) (w_law_is_right_2)
def w_law_is_right : WS := wSeq (wPar [2, 3] (wPcons false (wOp mulDD (wTup (wCons R.st (wC (.int 0)) (wNil))) (wCall lenD (wCons R.wk (wV 1) (wNil)))) (wPcons false (wCall tupleD (wCons R.wk (wLc (wIs (wV 1)) (.one 11) wYes (wFn C_law_draw (wRcons (wV 0) (wRcons (wOp addD (wV 11) (wC (.int 1))) (wRnil)))) [11]) (wNil))) (wPnil)))) (w_law_is_right_1)
-- split
def GoodF (js fs : List Int) : Prop := fs.length = js.length ∧ ∀ i, i < js.length → 0 ≤ fs.getD i 0 ∧ fs.getD i 0 ≤ js.getD i 0
theorem goodJ_ok {js : List Int} (h : GoodJ js) : okJugs (tupI js) = true := by
  unfold okJugs
  simp only [tupI, Bool.and_eq_true, List.all_eq_true]
  refine ⟨?_, fun x hx => ?_⟩
  · simp [sized]
    have := h.1
    have := h.2.1
    omega
  · obtain ⟨j, hj, rfl⟩ := List.mem_map.mp hx
    have := h.2.2 j hj
    simp [within]
    exact this
theorem goodF_ok {js fs : List Int} (h : GoodF js fs) : fillOk js (tupI fs) = true := by
  unfold fillOk
  simp only [tupI, Bool.and_eq_true, List.all_eq_true]
  refine ⟨by simp [sized, h.1], fun p hp => ?_⟩
  obtain ⟨i, hi, e⟩ := List.mem_iff_getElem.mp hp
  rw [List.length_zip, List.length_map] at hi
  have h1 : i < fs.length := by omega
  have h2 : i < js.length := by omega
  rw [List.getElem_zip, List.getElem_map] at e
  subst e
  have z := h.2 i h2
  rw [List.getD_eq_getElem?_getD, List.getElem?_eq_getElem h1, List.getD_eq_getElem?_getD, List.getElem?_eq_getElem h2] at z
  simp [within]
  exact z
theorem zeros_good {js : List Int} (h : GoodJ js) : GoodF js (zeros js.length) := by
  refine ⟨zeros_len _, fun i hi => ?_⟩
  have e : (zeros js.length).getD i 0 = 0 := by
    unfold zeros
    rw [List.getD_eq_getElem?_getD, List.getElem?_replicate]
    split <;> rfl
  rw [e, List.getD_eq_getElem?_getD, List.getElem?_eq_getElem hi]
  have := h.2.2 _ (List.getElem_mem hi)
  exact ⟨Int.le_refl _, by show 0 ≤ js[i]; omega⟩
theorem getD_set {xs : List Int} {i k : Nat} {v : Int} (h : i < xs.length) : (xs.set i v).getD k 0 = if i = k then v else xs.getD k 0 := by
  rw [List.getD_eq_getElem?_getD, List.getD_eq_getElem?_getD, List.getElem?_set]
  by_cases c : i = k
  · subst c
    simp [h]
  · simp [c]
theorem behindF_good {js fs : List Int} {d : Deed} (hj : GoodJ js) (h : GoodF js fs) (hd : d.ok js.length = true) : GoodF js (behindF js fs d) := by
  refine ⟨by rw [behindF_len]; exact h.1, fun k hk => ?_⟩
  have pos : ∀ i, i < js.length → 0 ≤ js.getD i 0 := fun i hi => by
    have := h.2 i hi
    omega
  cases d with
  | fill i =>
    have hi : i < js.length := by simpa [Deed.ok] using hd
    unfold behindF
    rw [getD_set (by rw [h.1]; exact hi)]
    split
    · rename_i e
      subst e
      exact ⟨pos i hi, Int.le_refl _⟩
    · exact h.2 k hk
  | empty i =>
    have hi : i < js.length := by simpa [Deed.ok] using hd
    unfold behindF
    rw [getD_set (by rw [h.1]; exact hi)]
    split
    · rename_i e
      subst e
      exact ⟨Int.le_refl _, pos i hi⟩
    · exact h.2 k hk
  | pour i j =>
    simp only [Deed.ok, Bool.and_eq_true, decide_eq_true_eq] at hd
    obtain ⟨⟨hi, hj'⟩, hij⟩ := hd
    have a := h.2 i hi
    have b := h.2 j hj'
    have c := h.2 k hk
    unfold behindF
    simp only
    rw [getD_set (by rw [List.length_set, h.1]; exact hj'), getD_set (by rw [h.1]; exact hi)]
    split
    · rename_i e
      subst e
      split <;> omega
    · split
      · rename_i e
        subst e
        split <;> omega
      · exact c
theorem sum_set : ∀ {xs : List Int} {i : Nat} {v : Int}, i < xs.length → (xs.set i v).sum = xs.sum - xs.getD i 0 + v
  | [], i, v, h => by cases h
  | x :: xs, 0, v, _ => by
    simp
    omega
  | x :: xs, i + 1, v, h => by
    have ih := sum_set (xs := xs) (i := i) (v := v) (by simpa using h)
    simp only [List.set_cons_succ, List.sum_cons, List.getD_cons_succ]
    omega
theorem pour_sum {js fs : List Int} {i j : Nat} (hl : fs.length = js.length) (hd : (Deed.pour i j).ok js.length = true) : (behindF js fs (.pour i j)).sum = fs.sum := by
  simp only [Deed.ok, Bool.and_eq_true, decide_eq_true_eq] at hd
  obtain ⟨⟨hi, hj'⟩, hij⟩ := hd
  unfold behindF
  simp only
  rw [sum_set (by rw [List.length_set]; omega), sum_set (by omega), getD_set (by omega), if_neg hij]
  omega
theorem runF_snoc (js : List Int) : ∀ (ds : List Deed) (f : List Int) (d : Deed), runF js f (ds ++ [d]) = runF js f ds ++ [behindF js (lastF js f ds) d]
  | [], f, d => rfl
  | e :: ds, f, d => by
    show f :: runF js (behindF js f e) (ds ++ [d]) = _
    rw [runF_snoc js ds]
    rfl
theorem lastF_snoc (js : List Int) : ∀ (ds : List Deed) (f : List Int) (d : Deed), lastF js f (ds ++ [d]) = behindF js (lastF js f ds) d
  | [], f, d => rfl
  | e :: ds, f, d => lastF_snoc js ds _ d
theorem runF_take (js : List Int) : ∀ (ds : List Deed) (f : List Int) (k : Nat), (runF js f ds).take (k + 1) = runF js f (ds.take k)
  | [], f, k => by
    rw [List.take_nil]
    show f :: ([] : List (List Int)).take k = [f]
    rw [List.take_nil]
  | e :: ds, f, 0 => rfl
  | e :: ds, f, k + 1 => by
    show f :: (runF js (behindF js f e) ds).take (k + 1) = f :: runF js (behindF js f e) (ds.take k)
    rw [runF_take js ds]
theorem runF_len (js : List Int) : ∀ (ds : List Deed) (f : List Int), (runF js f ds).length = ds.length + 1
  | [], f => rfl
  | e :: ds, f => by
    show (runF js (behindF js f e) ds).length + 1 = _
    rw [runF_len js ds]
    rfl
theorem runF_good {js : List Int} (hj : GoodJ js) : ∀ (ds : List Deed) (f : List Int), GoodF js f → (∀ d ∈ ds, d.ok js.length = true) → ∀ g ∈ runF js f ds, GoodF js g
  | [], f, hf, _ => fun g hg => by
    have e := List.mem_singleton.mp hg
    subst e
    exact hf
  | e :: ds, f, hf, ho => fun g hg => by
    rcases List.mem_cons.mp hg with rfl | hg
    · exact hf
    · exact runF_good hj ds _ (behindF_good hj hf (ho e List.mem_cons_self)) (fun d hd => ho d (List.mem_cons_of_mem _ hd)) g hg
theorem lastF_good {js : List Int} (hj : GoodJ js) : ∀ (ds : List Deed) (f : List Int), GoodF js f → (∀ d ∈ ds, d.ok js.length = true) → GoodF js (lastF js f ds)
  | [], f, hf, _ => hf
  | e :: ds, f, hf, ho => lastF_good hj ds _ (behindF_good hj hf (ho e List.mem_cons_self)) fun d hd => ho d (List.mem_cons_of_mem _ hd)
theorem small_int : ∀ i : Fin 13, (PyData.shown (.int (i.val : Int))).length ≤ 13 ∧ (PyData.int (i.val : Int)).showable = true := by decide +kernel
theorem good_small {js fs : List Int} (hj : GoodJ js) (h : GoodF js fs) : ∀ f ∈ fs, 0 ≤ f ∧ f ≤ 12 := fun f hf => by
  obtain ⟨i, hi, rfl⟩ := List.mem_iff_getElem.mp hf
  have hi2 : i < js.length := by rw [← h.1]; exact hi
  have z := h.2 i hi2
  rw [List.getD_eq_getElem?_getD, List.getElem?_eq_getElem hi, List.getD_eq_getElem?_getD, List.getElem?_eq_getElem hi2] at z
  have := hj.2.2 _ (List.getElem_mem hi2)
  have z' : 0 ≤ fs[i] ∧ fs[i] ≤ js[i] := z
  omega
theorem short_ints : ∀ {fs : List Int}, (∀ f ∈ fs, 0 ≤ f ∧ f ≤ 12) → PyData.leavesShortAll 13 (fs.map .int) = true ∧ PyData.showableAll (fs.map .int) = true ∧ PyData.bulkAll (fs.map .int) = fs.length
  | [], _ => ⟨rfl, rfl, rfl⟩
  | f :: fs, h => by
    obtain ⟨h1, h2, h3⟩ := short_ints (fs := fs) fun g hg => h g (List.mem_cons_of_mem _ hg)
    have hf := h f List.mem_cons_self
    have z := small_int ⟨f.toNat, by omega⟩
    have e : ((f.toNat : Nat) : Int) = f := Int.toNat_of_nonneg hf.1
    simp only [e] at z
    rw [List.map_cons]
    refine ⟨?_, ?_, ?_⟩
    · rw [PyData.leavesShortAll, h1, PyData.leavesShort, decide_eq_true z.1]
      rfl
    · rw [PyData.showableAll, h2, z.2]
      rfl
    · rw [PyData.bulkAll, h3, PyData.bulk, List.length_cons]
      omega
theorem shw_row {js fs : List Int} (hj : GoodJ js) (h : GoodF js fs) : Shw (tupI fs) := by
  obtain ⟨h1, h2, h3⟩ := short_ints (good_small hj h)
  refine ⟨(lay_ints fs).sh, h2, PyData.shown_fits_bulk (B := 13) (by decide) (by decide) h1 ?_⟩
  rw [PyData.bulk, h3, h.1]
  have := hj.2.1
  omega
theorem short_rows {js : List Int} (hj : GoodJ js) : ∀ {rows : List (List Int)}, (∀ g ∈ rows, GoodF js g) → PyData.leavesShortAll 13 (rowsD rows) = true ∧ PyData.showableAll (rowsD rows) = true ∧ PyData.bulkAll (rowsD rows) ≤ 4 * rows.length
  | [], _ => ⟨rfl, rfl, Nat.le_refl _⟩
  | f :: fs, h => by
    obtain ⟨h1, h2, h3⟩ := short_rows hj (rows := fs) fun g hg => h g (List.mem_cons_of_mem _ hg)
    have hf := h f List.mem_cons_self
    obtain ⟨g1, g2, g3⟩ := short_ints (good_small hj hf)
    show PyData.leavesShortAll 13 (tupI f :: rowsD fs) = true ∧ PyData.showableAll (tupI f :: rowsD fs) = true ∧ PyData.bulkAll (tupI f :: rowsD fs) ≤ 4 * (fs.length + 1)
    refine ⟨?_, ?_, ?_⟩
    · rw [PyData.leavesShortAll, h1, PyData.leavesShort, g1]
      rfl
    · rw [PyData.showableAll, h2, PyData.showable, g2]
      rfl
    · rw [PyData.bulkAll, PyData.bulk, g3, hf.1]
      have := hj.2.1
      omega
theorem lay_rows (rows : List (List Int)) : Lay 2 (.tuple (rowsD rows)) := lay_t (k := 1) fun x hx => by
  obtain ⟨g, _, rfl⟩ := List.mem_map.mp hx
  exact lay_ints g
theorem shw_rows {js : List Int} (hj : GoodJ js) {rows : List (List Int)} (h : ∀ g ∈ rows, GoodF js g) (hl : rows.length ≤ 100) : Shw (.tuple (rowsD rows)) := by
  obtain ⟨h1, h2, h3⟩ := short_rows hj h
  refine ⟨(lay_rows rows).sh, h2, PyData.shown_fits_bulk (B := 13) (by decide) (by decide) h1 ?_⟩
  rw [PyData.bulk]
  omega
theorem deeds_ok {n : Nat} {ds : List Deed} (h : ∀ d ∈ ds, d.ok n = true) (hl : ds.length ≤ 200) : deedsOk n (.tuple (ds.map Deed.toD)) = true := by
  unfold deedsOk
  rw [Bool.and_eq_true, List.all_eq_true]
  refine ⟨by simp [sized]; omega, fun x hx => ?_⟩
  obtain ⟨d, hd, rfl⟩ := List.mem_map.mp hx
  exact ok_deed (h d hd)
theorem heads_ok (ds : List Deed) : headsOk (.tuple (ds.map Deed.toD)) := by
  intro xs e x hx
  cases e
  obtain ⟨d, _, rfl⟩ := List.mem_map.mp hx
  exact head_deed d
/-- behind and run_of where all is right -/
theorem tupI_inj {a b : List Int} (h : tupI a = tupI b) : a = b := List.map_inj_right (fun a b h => PyData.int.inj h) |>.mp (PyData.tuple.inj h)
theorem toD_inj {d e : Deed} (h : d.toD = e.toD) : d = e := by
  cases d <;> cases e <;> simp [Deed.toD] at h
  · exact congrArg Deed.fill (Int.ofNat_inj.mp h)
  · exact absurd h.1 (by decide +kernel)
  · exact absurd h.1 (by decide +kernel)
  · exact congrArg Deed.empty (Int.ofNat_inj.mp h)
  · rw [Int.ofNat_inj.mp h.1, Int.ofNat_inj.mp h.2]
theorem behind_good {js fs : List Int} {d : Deed} {Q : R → Prop} {X : Exc → Prop} (hj : GoodJ js) (h : GoodF js fs) (hd : d.ok js.length = true) (q : Q (.d (tupI (behindF js fs d)))) : C_behind [.d (tupI js), .d (tupI fs), .d d.toD] Q X := by
  refine ⟨_, _, _, rfl, head_deed d, fun z => ?_, fun js' _ e => ?_⟩
  · rw [goodJ_ok hj] at z
    cases z
  · have e1 := tupI_inj e
    subst e1
    refine ⟨fun z => ?_, fun _ z => ?_, fun fs' d' _ e2 _ e3 _ => ?_⟩
    · rw [goodF_ok h] at z
      cases z
    · rw [ok_deed hd] at z
      cases z
    · have e4 := tupI_inj e2
      have e5 := toD_inj e3
      subst e4 e5
      exact q
theorem map_toD_inj {a b : List Deed} (h : a.map Deed.toD = b.map Deed.toD) : a = b := List.map_inj_right (fun a b h => toD_inj h) |>.mp h
theorem run_good {js : List Int} {ds : List Deed} {Q : R → Prop} {X : Exc → Prop} (hj : GoodJ js) (ho : ∀ d ∈ ds, d.ok js.length = true) (hl : ds.length ≤ 200) (q : Q (.d (.tuple (rowsD (runF js (zeros js.length) ds))))) : C_run_of [.d (tupI js), .d (.tuple (ds.map Deed.toD))] Q X := by
  refine ⟨_, _, rfl, heads_ok ds, fun z => ?_, fun js' _ e => ?_⟩
  · rw [goodJ_ok hj] at z
    cases z
  · have e1 := tupI_inj e
    subst e1
    refine ⟨fun z => ?_, fun ds' e2 _ _ => ?_⟩
    · rw [deeds_ok ho hl] at z
      cases z
    · have e3 := map_toD_inj (PyData.tuple.inj e2)
      subst e3
      exact q
def C_law_is_right : Ct := fun rs Q _ => ∃ js, rs = [.hand L_hand, .d (tupI js)] ∧ GoodJ js ∧ Q (.d (.bool true))
theorem l_law_is_right : ∀ rs Q X, C_law_is_right rs Q X → rs.length = 2 := by
  rintro rs Q X ⟨_, rfl, _⟩
  rfl
abbrev dEnd (Q : R → Prop) : End3 := ⟨fun _ => Q (.d .none), Q, fun _ => False, fun _ => False⟩
theorem cut_ds (ds : List Deed) (k : Nat) : cut (ds.map Deed.toD) none (some (k : Int)) = (ds.take k).map Deed.toD := by rw [cut_to, List.map_take]
theorem cut_rows (rows : List (List Int)) (k : Nat) : cut (rowsD rows) none (some (k : Int)) = rowsD (rows.take k) := by
  rw [cut_to]
  unfold rowsD
  rw [List.map_take]
theorem p_right_4 {Q : R → Prop} {X : Exc → Prop} {js : List Int} {ds : List Deed} {a2 a3 a6 a7 a8 a9 a10 : Option R} (hj : GoodJ js) (ho : ∀ d ∈ ds, d.ok js.length = true) (hl : ds.length ≤ 50) (q : Q (.d (.bool true))) :
    w_law_is_right_4 (dEnd Q) [some (.hand L_hand), some (.d (tupI js)), a2, a3, some (.own (rowsD (runF js (zeros js.length) ds))), some (.own (ds.map Deed.toD)), a6, a7, a8, a9, a10, none] X := by
  (try simp only [sumDD, eqS, reprD, wV, wC, wNil, wCons, wTup, wLst, wOp, wUn, wCall, wT, wNot, wAnd, wOr, wB, wAndV, wOrV, wNotV, wIf, wIsi, wChain, wNo, wPart, wSl, wSet, wSetO, wTg, wPnil, wPcons, wPar, wNext, wSeq, wRet, wRetO, wRetN, wIfS, wBrk, wCnt, wDrop, wFrz, wApp, wExt, wSetIx, wAugIx, wAug, wRnil, wRcons, wFn, wRaise, wWord, wRetH, wSetIxH, wCount, wIndex, wIsE, wListRg1, wListRg2, wYes, wIs, wIz, wIl, wIt, wIr1, wIr2, wSlS, wPop, wAppPop, R.wk, R.st, R.ar, R.bl, R.no, R.sq, R.slot, setsR, startR, List.map_cons, List.map_nil, List.cons_append, List.nil_append, List.length_cons, List.length_nil, List.replicate, List.getElem?_cons_zero, List.getElem?_cons_succ, Option.some.injEq, exists_eq_left', exists_eq_left, R.d.injEq, R.own.injEq, R.fr.injEq, List.set_cons_zero, List.set_cons_succ, addD, subD, mulDD, fdivD, modD, ltD, leD, gtD, geD, eqD, neD, isND, isnotND, inDD, notInDD, ixD, negD, lenD, absD, intD, min2D, max2D, listD, tupleD, slD, Nat.reduceAdd, Nat.reduceSub, Nat.add_zero, Nat.zero_add, true_and, and_true, ite_true, ite_false, if_true, if_false, Bool.false_eq_true, reduceIte, Option.some_inj, Bool.true_eq_false, tgW, tgWs, wipe3, List.set_nil, w_law_is_right_4, C_law_draw, C_draw, List.length_map])
  refine ⟨_, rfl, by omega, by omega, fun n n0 n1 => ?_⟩
  obtain ⟨k, rfl⟩ := Int.eq_ofNat_of_zero_le n0
  (try simp only [sumDD, eqS, reprD, wV, wC, wNil, wCons, wTup, wLst, wOp, wUn, wCall, wT, wNot, wAnd, wOr, wB, wAndV, wOrV, wNotV, wIf, wIsi, wChain, wNo, wPart, wSl, wSet, wSetO, wTg, wPnil, wPcons, wPar, wNext, wSeq, wRet, wRetO, wRetN, wIfS, wBrk, wCnt, wDrop, wFrz, wApp, wExt, wSetIx, wAugIx, wAug, wRnil, wRcons, wFn, wRaise, wWord, wRetH, wSetIxH, wCount, wIndex, wIsE, wListRg1, wListRg2, wYes, wIs, wIz, wIl, wIt, wIr1, wIr2, wSlS, wPop, wAppPop, R.wk, R.st, R.ar, R.bl, R.no, R.sq, R.slot, setsR, startR, List.map_cons, List.map_nil, List.cons_append, List.nil_append, List.length_cons, List.length_nil, List.replicate, List.getElem?_cons_zero, List.getElem?_cons_succ, Option.some.injEq, exists_eq_left', exists_eq_left, R.d.injEq, R.own.injEq, R.fr.injEq, List.set_cons_zero, List.set_cons_succ, addD, subD, mulDD, fdivD, modD, ltD, leD, gtD, geD, eqD, neD, isND, isnotND, inDD, notInDD, ixD, negD, lenD, absD, intD, min2D, max2D, listD, tupleD, slD, Nat.reduceAdd, Nat.reduceSub, Nat.add_zero, Nat.zero_add, true_and, and_true, ite_true, ite_false, if_true, if_false, Bool.false_eq_true, reduceIte, Option.some_inj, Bool.true_eq_false, tgW, tgWs, wipe3, List.set_nil, w_law_is_right_5])
  rw [cut_ds]
  refine run_good hj (fun d hd => ho d (List.mem_of_mem_take hd)) (by rw [List.length_take]; omega) ?_
  (try simp only [sumDD, eqS, reprD, wV, wC, wNil, wCons, wTup, wLst, wOp, wUn, wCall, wT, wNot, wAnd, wOr, wB, wAndV, wOrV, wNotV, wIf, wIsi, wChain, wNo, wPart, wSl, wSet, wSetO, wTg, wPnil, wPcons, wPar, wNext, wSeq, wRet, wRetO, wRetN, wIfS, wBrk, wCnt, wDrop, wFrz, wApp, wExt, wSetIx, wAugIx, wAug, wRnil, wRcons, wFn, wRaise, wWord, wRetH, wSetIxH, wCount, wIndex, wIsE, wListRg1, wListRg2, wYes, wIs, wIz, wIl, wIt, wIr1, wIr2, wSlS, wPop, wAppPop, R.wk, R.st, R.ar, R.bl, R.no, R.sq, R.slot, setsR, startR, List.map_cons, List.map_nil, List.cons_append, List.nil_append, List.length_cons, List.length_nil, List.replicate, List.getElem?_cons_zero, List.getElem?_cons_succ, Option.some.injEq, exists_eq_left', exists_eq_left, R.d.injEq, R.own.injEq, R.fr.injEq, List.set_cons_zero, List.set_cons_succ, addD, subD, mulDD, fdivD, modD, ltD, leD, gtD, geD, eqD, neD, isND, isnotND, inDD, notInDD, ixD, negD, lenD, absD, intD, min2D, max2D, listD, tupleD, slD, Nat.reduceAdd, Nat.reduceSub, Nat.add_zero, Nat.zero_add, true_and, and_true, ite_true, ite_false, if_true, if_false, Bool.false_eq_true, reduceIte, Option.some_inj, Bool.true_eq_false, tgW, tgWs, wipe3, List.set_nil])
  have e : ((k : Int) + 1) = ((k + 1 : Nat) : Int) := rfl
  rw [e, cut_rows, runF_take]
  refine ⟨(lay_rows _).sh, (lay_rows _).sh, ?_⟩
  rw [eqv_same (lay_rows _)]
  exact q
theorem p_right_3 {Q : R → Prop} {X : Exc → Prop} {js : List Int} {ds : List Deed} {a2 a3 a6 a7 a8 a9 a10 : Option R} (hj : GoodJ js) (ho : ∀ d ∈ ds, d.ok js.length = true) (hl : ds.length ≤ 50) (q : Q (.d (.bool true))) :
    w_law_is_right_3 (dEnd Q) [some (.hand L_hand), some (.d (tupI js)), a2, a3, some (.own (rowsD (runF js (zeros js.length) ds))), some (.own (ds.map Deed.toD)), a6, a7, a8, a9, a10, none] X := by
  have hz := zeros_good hj
  (try simp only [sumDD, eqS, reprD, wV, wC, wNil, wCons, wTup, wLst, wOp, wUn, wCall, wT, wNot, wAnd, wOr, wB, wAndV, wOrV, wNotV, wIf, wIsi, wChain, wNo, wPart, wSl, wSet, wSetO, wTg, wPnil, wPcons, wPar, wNext, wSeq, wRet, wRetO, wRetN, wIfS, wBrk, wCnt, wDrop, wFrz, wApp, wExt, wSetIx, wAugIx, wAug, wRnil, wRcons, wFn, wRaise, wWord, wRetH, wSetIxH, wCount, wIndex, wIsE, wListRg1, wListRg2, wYes, wIs, wIz, wIl, wIt, wIr1, wIr2, wSlS, wPop, wAppPop, R.wk, R.st, R.ar, R.bl, R.no, R.sq, R.slot, setsR, startR, List.map_cons, List.map_nil, List.cons_append, List.nil_append, List.length_cons, List.length_nil, List.replicate, List.getElem?_cons_zero, List.getElem?_cons_succ, Option.some.injEq, exists_eq_left', exists_eq_left, R.d.injEq, R.own.injEq, R.fr.injEq, List.set_cons_zero, List.set_cons_succ, addD, subD, mulDD, fdivD, modD, ltD, leD, gtD, geD, eqD, neD, isND, isnotND, inDD, notInDD, ixD, negD, lenD, absD, intD, min2D, max2D, listD, tupleD, slD, Nat.reduceAdd, Nat.reduceSub, Nat.add_zero, Nat.zero_add, true_and, and_true, ite_true, ite_false, if_true, if_false, Bool.false_eq_true, reduceIte, Option.some_inj, Bool.true_eq_false, tgW, tgWs, wipe3, List.set_nil, w_law_is_right_3])
  refine run_good hj ho (by omega) ?_
  (try simp only [sumDD, eqS, reprD, wV, wC, wNil, wCons, wTup, wLst, wOp, wUn, wCall, wT, wNot, wAnd, wOr, wB, wAndV, wOrV, wNotV, wIf, wIsi, wChain, wNo, wPart, wSl, wSet, wSetO, wTg, wPnil, wPcons, wPar, wNext, wSeq, wRet, wRetO, wRetN, wIfS, wBrk, wCnt, wDrop, wFrz, wApp, wExt, wSetIx, wAugIx, wAug, wRnil, wRcons, wFn, wRaise, wWord, wRetH, wSetIxH, wCount, wIndex, wIsE, wListRg1, wListRg2, wYes, wIs, wIz, wIl, wIt, wIr1, wIr2, wSlS, wPop, wAppPop, R.wk, R.st, R.ar, R.bl, R.no, R.sq, R.slot, setsR, startR, List.map_cons, List.map_nil, List.cons_append, List.nil_append, List.length_cons, List.length_nil, List.replicate, List.getElem?_cons_zero, List.getElem?_cons_succ, Option.some.injEq, exists_eq_left', exists_eq_left, R.d.injEq, R.own.injEq, R.fr.injEq, List.set_cons_zero, List.set_cons_succ, addD, subD, mulDD, fdivD, modD, ltD, leD, gtD, geD, eqD, neD, isND, isnotND, inDD, notInDD, ixD, negD, lenD, absD, intD, min2D, max2D, listD, tupleD, slD, Nat.reduceAdd, Nat.reduceSub, Nat.add_zero, Nat.zero_add, true_and, and_true, ite_true, ite_false, if_true, if_false, Bool.false_eq_true, reduceIte, Option.some_inj, Bool.true_eq_false, tgW, tgWs, wipe3, List.set_nil, C_law_same])
  refine ⟨_, rfl, shw_rows hj (runF_good hj ds _ hz ho) (by rw [runF_len]; omega), ?_⟩
  (try simp only [sumDD, eqS, reprD, wV, wC, wNil, wCons, wTup, wLst, wOp, wUn, wCall, wT, wNot, wAnd, wOr, wB, wAndV, wOrV, wNotV, wIf, wIsi, wChain, wNo, wPart, wSl, wSet, wSetO, wTg, wPnil, wPcons, wPar, wNext, wSeq, wRet, wRetO, wRetN, wIfS, wBrk, wCnt, wDrop, wFrz, wApp, wExt, wSetIx, wAugIx, wAug, wRnil, wRcons, wFn, wRaise, wWord, wRetH, wSetIxH, wCount, wIndex, wIsE, wListRg1, wListRg2, wYes, wIs, wIz, wIl, wIt, wIr1, wIr2, wSlS, wPop, wAppPop, R.wk, R.st, R.ar, R.bl, R.no, R.sq, R.slot, setsR, startR, List.map_cons, List.map_nil, List.cons_append, List.nil_append, List.length_cons, List.length_nil, List.replicate, List.getElem?_cons_zero, List.getElem?_cons_succ, Option.some.injEq, exists_eq_left', exists_eq_left, R.d.injEq, R.own.injEq, R.fr.injEq, List.set_cons_zero, List.set_cons_succ, addD, subD, mulDD, fdivD, modD, ltD, leD, gtD, geD, eqD, neD, isND, isnotND, inDD, notInDD, ixD, negD, lenD, absD, intD, min2D, max2D, listD, tupleD, slD, Nat.reduceAdd, Nat.reduceSub, Nat.add_zero, Nat.zero_add, true_and, and_true, ite_true, ite_false, if_true, if_false, Bool.false_eq_true, reduceIte, Option.some_inj, Bool.true_eq_false, tgW, tgWs, wipe3, List.set_nil, Bool.not_true])
  refine run_good (ds := []) hj (fun _ h => by cases h) (by decide) ?_
  (try simp only [sumDD, eqS, reprD, wV, wC, wNil, wCons, wTup, wLst, wOp, wUn, wCall, wT, wNot, wAnd, wOr, wB, wAndV, wOrV, wNotV, wIf, wIsi, wChain, wNo, wPart, wSl, wSet, wSetO, wTg, wPnil, wPcons, wPar, wNext, wSeq, wRet, wRetO, wRetN, wIfS, wBrk, wCnt, wDrop, wFrz, wApp, wExt, wSetIx, wAugIx, wAug, wRnil, wRcons, wFn, wRaise, wWord, wRetH, wSetIxH, wCount, wIndex, wIsE, wListRg1, wListRg2, wYes, wIs, wIz, wIl, wIt, wIr1, wIr2, wSlS, wPop, wAppPop, R.wk, R.st, R.ar, R.bl, R.no, R.sq, R.slot, setsR, startR, List.map_cons, List.map_nil, List.cons_append, List.nil_append, List.length_cons, List.length_nil, List.replicate, List.getElem?_cons_zero, List.getElem?_cons_succ, Option.some.injEq, exists_eq_left', exists_eq_left, R.d.injEq, R.own.injEq, R.fr.injEq, List.set_cons_zero, List.set_cons_succ, addD, subD, mulDD, fdivD, modD, ltD, leD, gtD, geD, eqD, neD, isND, isnotND, inDD, notInDD, ixD, negD, lenD, absD, intD, min2D, max2D, listD, tupleD, slD, Nat.reduceAdd, Nat.reduceSub, Nat.add_zero, Nat.zero_add, true_and, and_true, ite_true, ite_false, if_true, if_false, Bool.false_eq_true, reduceIte, Option.some_inj, Bool.true_eq_false, tgW, tgWs, wipe3, List.set_nil])
  have e : atI (rowsD (runF js (zeros js.length) ds)) 0 = some (tupI (zeros js.length)) := by
    cases ds with
    | nil => exact at0 _ _
    | cons d ds => exact at0 _ _
  refine ⟨_, e, (lay_rows _).sh, (lay_rows [zeros js.length]).sh, ?_⟩
  have e2 : PyData.eqv (.tuple (rowsD (runF js (zeros js.length) []))) (.tuple [tupI (zeros js.length)]) = true := eqv_same (lay_rows [zeros js.length])
  rw [e2]
  (try simp only [sumDD, eqS, reprD, wV, wC, wNil, wCons, wTup, wLst, wOp, wUn, wCall, wT, wNot, wAnd, wOr, wB, wAndV, wOrV, wNotV, wIf, wIsi, wChain, wNo, wPart, wSl, wSet, wSetO, wTg, wPnil, wPcons, wPar, wNext, wSeq, wRet, wRetO, wRetN, wIfS, wBrk, wCnt, wDrop, wFrz, wApp, wExt, wSetIx, wAugIx, wAug, wRnil, wRcons, wFn, wRaise, wWord, wRetH, wSetIxH, wCount, wIndex, wIsE, wListRg1, wListRg2, wYes, wIs, wIz, wIl, wIt, wIr1, wIr2, wSlS, wPop, wAppPop, R.wk, R.st, R.ar, R.bl, R.no, R.sq, R.slot, setsR, startR, List.map_cons, List.map_nil, List.cons_append, List.nil_append, List.length_cons, List.length_nil, List.replicate, List.getElem?_cons_zero, List.getElem?_cons_succ, Option.some.injEq, exists_eq_left', exists_eq_left, R.d.injEq, R.own.injEq, R.fr.injEq, List.set_cons_zero, List.set_cons_succ, addD, subD, mulDD, fdivD, modD, ltD, leD, gtD, geD, eqD, neD, isND, isnotND, inDD, notInDD, ixD, negD, lenD, absD, intD, min2D, max2D, listD, tupleD, slD, Nat.reduceAdd, Nat.reduceSub, Nat.add_zero, Nat.zero_add, true_and, and_true, ite_true, ite_false, if_true, if_false, Bool.false_eq_true, reduceIte, Option.some_inj, Bool.true_eq_false, tgW, tgWs, wipe3, List.set_nil, Bool.not_true])
  exact p_right_4 hj ho hl q
/-- one turn's look at all deeds -/
theorem p_right_b {D : End3} {X : Exc → Prop} {js fs : List Int} {d : Deed} {N : Env3 → Prop} {a2 a3 a6 a9 a10 r4 r5 : Option R} (hj : GoodJ js) (hf : GoodF js fs) (ho : d.ok js.length = true) 
    (hN : ∀ o, N [some (.hand L_hand), some (.d (tupI js)), a2, a3, r4, r5, a6, some (.d d.toD), some (.d (tupI fs)), o, a10, none]) :
    b3_law_is_right ⟨N, D.rt, D.nx, N⟩ [some (.hand L_hand), some (.d (tupI js)), a2, a3, r4, r5, a6, some (.d d.toD), some (.d (tupI fs)), a9, a10, none] X := by
  (try simp only [sumDD, eqS, reprD, wV, wC, wNil, wCons, wTup, wLst, wOp, wUn, wCall, wT, wNot, wAnd, wOr, wB, wAndV, wOrV, wNotV, wIf, wIsi, wChain, wNo, wPart, wSl, wSet, wSetO, wTg, wPnil, wPcons, wPar, wNext, wSeq, wRet, wRetO, wRetN, wIfS, wBrk, wCnt, wDrop, wFrz, wApp, wExt, wSetIx, wAugIx, wAug, wRnil, wRcons, wFn, wRaise, wWord, wRetH, wSetIxH, wCount, wIndex, wIsE, wListRg1, wListRg2, wYes, wIs, wIz, wIl, wIt, wIr1, wIr2, wSlS, wPop, wAppPop, R.wk, R.st, R.ar, R.bl, R.no, R.sq, R.slot, setsR, startR, List.map_cons, List.map_nil, List.cons_append, List.nil_append, List.length_cons, List.length_nil, List.replicate, List.getElem?_cons_zero, List.getElem?_cons_succ, Option.some.injEq, exists_eq_left', exists_eq_left, R.d.injEq, R.own.injEq, R.fr.injEq, List.set_cons_zero, List.set_cons_succ, addD, subD, mulDD, fdivD, modD, ltD, leD, gtD, geD, eqD, neD, isND, isnotND, inDD, notInDD, ixD, negD, lenD, absD, intD, min2D, max2D, listD, tupleD, slD, Nat.reduceAdd, Nat.reduceSub, Nat.add_zero, Nat.zero_add, true_and, and_true, ite_true, ite_false, if_true, if_false, Bool.false_eq_true, reduceIte, Option.some_inj, Bool.true_eq_false, tgW, tgWs, wipe3, List.set_nil, b3_law_is_right, C_law_done])
  refine ⟨_, _, _, rfl, hf.1, ho, ?_⟩
  (try simp only [sumDD, eqS, reprD, wV, wC, wNil, wCons, wTup, wLst, wOp, wUn, wCall, wT, wNot, wAnd, wOr, wB, wAndV, wOrV, wNotV, wIf, wIsi, wChain, wNo, wPart, wSl, wSet, wSetO, wTg, wPnil, wPcons, wPar, wNext, wSeq, wRet, wRetO, wRetN, wIfS, wBrk, wCnt, wDrop, wFrz, wApp, wExt, wSetIx, wAugIx, wAug, wRnil, wRcons, wFn, wRaise, wWord, wRetH, wSetIxH, wCount, wIndex, wIsE, wListRg1, wListRg2, wYes, wIs, wIz, wIl, wIt, wIr1, wIr2, wSlS, wPop, wAppPop, R.wk, R.st, R.ar, R.bl, R.no, R.sq, R.slot, setsR, startR, List.map_cons, List.map_nil, List.cons_append, List.nil_append, List.length_cons, List.length_nil, List.replicate, List.getElem?_cons_zero, List.getElem?_cons_succ, Option.some.injEq, exists_eq_left', exists_eq_left, R.d.injEq, R.own.injEq, R.fr.injEq, List.set_cons_zero, List.set_cons_succ, addD, subD, mulDD, fdivD, modD, ltD, leD, gtD, geD, eqD, neD, isND, isnotND, inDD, notInDD, ixD, negD, lenD, absD, intD, min2D, max2D, listD, tupleD, slD, Nat.reduceAdd, Nat.reduceSub, Nat.add_zero, Nat.zero_add, true_and, and_true, ite_true, ite_false, if_true, if_false, Bool.false_eq_true, reduceIte, Option.some_inj, Bool.true_eq_false, tgW, tgWs, wipe3, List.set_nil, b3_law_is_right_1])
  refine behind_good hj hf ho ?_
  (try simp only [sumDD, eqS, reprD, wV, wC, wNil, wCons, wTup, wLst, wOp, wUn, wCall, wT, wNot, wAnd, wOr, wB, wAndV, wOrV, wNotV, wIf, wIsi, wChain, wNo, wPart, wSl, wSet, wSetO, wTg, wPnil, wPcons, wPar, wNext, wSeq, wRet, wRetO, wRetN, wIfS, wBrk, wCnt, wDrop, wFrz, wApp, wExt, wSetIx, wAugIx, wAug, wRnil, wRcons, wFn, wRaise, wWord, wRetH, wSetIxH, wCount, wIndex, wIsE, wListRg1, wListRg2, wYes, wIs, wIz, wIl, wIt, wIr1, wIr2, wSlS, wPop, wAppPop, R.wk, R.st, R.ar, R.bl, R.no, R.sq, R.slot, setsR, startR, List.map_cons, List.map_nil, List.cons_append, List.nil_append, List.length_cons, List.length_nil, List.replicate, List.getElem?_cons_zero, List.getElem?_cons_succ, Option.some.injEq, exists_eq_left', exists_eq_left, R.d.injEq, R.own.injEq, R.fr.injEq, List.set_cons_zero, List.set_cons_succ, addD, subD, mulDD, fdivD, modD, ltD, leD, gtD, geD, eqD, neD, isND, isnotND, inDD, notInDD, ixD, negD, lenD, absD, intD, min2D, max2D, listD, tupleD, slD, Nat.reduceAdd, Nat.reduceSub, Nat.add_zero, Nat.zero_add, true_and, and_true, ite_true, ite_false, if_true, if_false, Bool.false_eq_true, reduceIte, Option.some_inj, Bool.true_eq_false, tgW, tgWs, wipe3, List.set_nil, C_law_same])
  refine ⟨_, rfl, shw_row hj (behindF_good hj hf ho), ?_⟩
  (try simp only [sumDD, eqS, reprD, wV, wC, wNil, wCons, wTup, wLst, wOp, wUn, wCall, wT, wNot, wAnd, wOr, wB, wAndV, wOrV, wNotV, wIf, wIsi, wChain, wNo, wPart, wSl, wSet, wSetO, wTg, wPnil, wPcons, wPar, wNext, wSeq, wRet, wRetO, wRetN, wIfS, wBrk, wCnt, wDrop, wFrz, wApp, wExt, wSetIx, wAugIx, wAug, wRnil, wRcons, wFn, wRaise, wWord, wRetH, wSetIxH, wCount, wIndex, wIsE, wListRg1, wListRg2, wYes, wIs, wIz, wIl, wIt, wIr1, wIr2, wSlS, wPop, wAppPop, R.wk, R.st, R.ar, R.bl, R.no, R.sq, R.slot, setsR, startR, List.map_cons, List.map_nil, List.cons_append, List.nil_append, List.length_cons, List.length_nil, List.replicate, List.getElem?_cons_zero, List.getElem?_cons_succ, Option.some.injEq, exists_eq_left', exists_eq_left, R.d.injEq, R.own.injEq, R.fr.injEq, List.set_cons_zero, List.set_cons_succ, addD, subD, mulDD, fdivD, modD, ltD, leD, gtD, geD, eqD, neD, isND, isnotND, inDD, notInDD, ixD, negD, lenD, absD, intD, min2D, max2D, listD, tupleD, slD, Nat.reduceAdd, Nat.reduceSub, Nat.add_zero, Nat.zero_add, true_and, and_true, ite_true, ite_false, if_true, if_false, Bool.false_eq_true, reduceIte, Option.some_inj, Bool.true_eq_false, tgW, tgWs, wipe3, List.set_nil, Bool.not_true, b3_law_is_right_2])
  cases d with
  | fill i =>
    (try simp only [sumDD, eqS, reprD, wV, wC, wNil, wCons, wTup, wLst, wOp, wUn, wCall, wT, wNot, wAnd, wOr, wB, wAndV, wOrV, wNotV, wIf, wIsi, wChain, wNo, wPart, wSl, wSet, wSetO, wTg, wPnil, wPcons, wPar, wNext, wSeq, wRet, wRetO, wRetN, wIfS, wBrk, wCnt, wDrop, wFrz, wApp, wExt, wSetIx, wAugIx, wAug, wRnil, wRcons, wFn, wRaise, wWord, wRetH, wSetIxH, wCount, wIndex, wIsE, wListRg1, wListRg2, wYes, wIs, wIz, wIl, wIt, wIr1, wIr2, wSlS, wPop, wAppPop, R.wk, R.st, R.ar, R.bl, R.no, R.sq, R.slot, setsR, startR, List.map_cons, List.map_nil, List.cons_append, List.nil_append, List.length_cons, List.length_nil, List.replicate, List.getElem?_cons_zero, List.getElem?_cons_succ, Option.some.injEq, exists_eq_left', exists_eq_left, R.d.injEq, R.own.injEq, R.fr.injEq, List.set_cons_zero, List.set_cons_succ, addD, subD, mulDD, fdivD, modD, ltD, leD, gtD, geD, eqD, neD, isND, isnotND, inDD, notInDD, ixD, negD, lenD, absD, intD, min2D, max2D, listD, tupleD, slD, Nat.reduceAdd, Nat.reduceSub, Nat.add_zero, Nat.zero_add, true_and, and_true, ite_true, ite_false, if_true, if_false, Bool.false_eq_true, reduceIte, Option.some_inj, Bool.true_eq_false, tgW, tgWs, wipe3, List.set_nil, Deed.toD, at0, eqv_ss, sh_fill, sh_pour, ne5])
    exact hN _
  | empty i =>
    (try simp only [sumDD, eqS, reprD, wV, wC, wNil, wCons, wTup, wLst, wOp, wUn, wCall, wT, wNot, wAnd, wOr, wB, wAndV, wOrV, wNotV, wIf, wIsi, wChain, wNo, wPart, wSl, wSet, wSetO, wTg, wPnil, wPcons, wPar, wNext, wSeq, wRet, wRetO, wRetN, wIfS, wBrk, wCnt, wDrop, wFrz, wApp, wExt, wSetIx, wAugIx, wAug, wRnil, wRcons, wFn, wRaise, wWord, wRetH, wSetIxH, wCount, wIndex, wIsE, wListRg1, wListRg2, wYes, wIs, wIz, wIl, wIt, wIr1, wIr2, wSlS, wPop, wAppPop, R.wk, R.st, R.ar, R.bl, R.no, R.sq, R.slot, setsR, startR, List.map_cons, List.map_nil, List.cons_append, List.nil_append, List.length_cons, List.length_nil, List.replicate, List.getElem?_cons_zero, List.getElem?_cons_succ, Option.some.injEq, exists_eq_left', exists_eq_left, R.d.injEq, R.own.injEq, R.fr.injEq, List.set_cons_zero, List.set_cons_succ, addD, subD, mulDD, fdivD, modD, ltD, leD, gtD, geD, eqD, neD, isND, isnotND, inDD, notInDD, ixD, negD, lenD, absD, intD, min2D, max2D, listD, tupleD, slD, Nat.reduceAdd, Nat.reduceSub, Nat.add_zero, Nat.zero_add, true_and, and_true, ite_true, ite_false, if_true, if_false, Bool.false_eq_true, reduceIte, Option.some_inj, Bool.true_eq_false, tgW, tgWs, wipe3, List.set_nil, Deed.toD, at0, eqv_ss, sh_empty, sh_pour, ne4])
    exact hN _
  | pour i j =>
    (try simp only [sumDD, eqS, reprD, wV, wC, wNil, wCons, wTup, wLst, wOp, wUn, wCall, wT, wNot, wAnd, wOr, wB, wAndV, wOrV, wNotV, wIf, wIsi, wChain, wNo, wPart, wSl, wSet, wSetO, wTg, wPnil, wPcons, wPar, wNext, wSeq, wRet, wRetO, wRetN, wIfS, wBrk, wCnt, wDrop, wFrz, wApp, wExt, wSetIx, wAugIx, wAug, wRnil, wRcons, wFn, wRaise, wWord, wRetH, wSetIxH, wCount, wIndex, wIsE, wListRg1, wListRg2, wYes, wIs, wIz, wIl, wIt, wIr1, wIr2, wSlS, wPop, wAppPop, R.wk, R.st, R.ar, R.bl, R.no, R.sq, R.slot, setsR, startR, List.map_cons, List.map_nil, List.cons_append, List.nil_append, List.length_cons, List.length_nil, List.replicate, List.getElem?_cons_zero, List.getElem?_cons_succ, Option.some.injEq, exists_eq_left', exists_eq_left, R.d.injEq, R.own.injEq, R.fr.injEq, List.set_cons_zero, List.set_cons_succ, addD, subD, mulDD, fdivD, modD, ltD, leD, gtD, geD, eqD, neD, isND, isnotND, inDD, notInDD, ixD, negD, lenD, absD, intD, min2D, max2D, listD, tupleD, slD, Nat.reduceAdd, Nat.reduceSub, Nat.add_zero, Nat.zero_add, true_and, and_true, ite_true, ite_false, if_true, if_false, Bool.false_eq_true, reduceIte, Option.some_inj, Bool.true_eq_false, tgW, tgWs, wipe3, List.set_nil, Deed.toD, at0, eqv_ss, sh_pour, decide_true])
    refine ⟨_, rfl, _, rfl, rfl, rfl, ?_⟩
    rw [pour_sum hf.1 ho, eqv_ii, decide_eq_true rfl]
    (try simp only [sumDD, eqS, reprD, wV, wC, wNil, wCons, wTup, wLst, wOp, wUn, wCall, wT, wNot, wAnd, wOr, wB, wAndV, wOrV, wNotV, wIf, wIsi, wChain, wNo, wPart, wSl, wSet, wSetO, wTg, wPnil, wPcons, wPar, wNext, wSeq, wRet, wRetO, wRetN, wIfS, wBrk, wCnt, wDrop, wFrz, wApp, wExt, wSetIx, wAugIx, wAug, wRnil, wRcons, wFn, wRaise, wWord, wRetH, wSetIxH, wCount, wIndex, wIsE, wListRg1, wListRg2, wYes, wIs, wIz, wIl, wIt, wIr1, wIr2, wSlS, wPop, wAppPop, R.wk, R.st, R.ar, R.bl, R.no, R.sq, R.slot, setsR, startR, List.map_cons, List.map_nil, List.cons_append, List.nil_append, List.length_cons, List.length_nil, List.replicate, List.getElem?_cons_zero, List.getElem?_cons_succ, Option.some.injEq, exists_eq_left', exists_eq_left, R.d.injEq, R.own.injEq, R.fr.injEq, List.set_cons_zero, List.set_cons_succ, addD, subD, mulDD, fdivD, modD, ltD, leD, gtD, geD, eqD, neD, isND, isnotND, inDD, notInDD, ixD, negD, lenD, absD, intD, min2D, max2D, listD, tupleD, slD, Nat.reduceAdd, Nat.reduceSub, Nat.add_zero, Nat.zero_add, true_and, and_true, ite_true, ite_false, if_true, if_false, Bool.false_eq_true, reduceIte, Option.some_inj, Bool.true_eq_false, tgW, tgWs, wipe3, List.set_nil, Bool.not_true])
    exact hN _
theorem p_right_c {D : End3} {X : Exc → Prop} {js f g : List Int} {d : Deed} {a6 a8 a9 a10 r4 r5 : Option R} (hj : GoodJ js) (hf : GoodF js f) (hg : GoodF js g) (ho : d.ok js.length = true)
    (hN : ∀ o8 o9, D.nx [some (.hand L_hand), some (.d (tupI js)), some (.d (tupI f)), some (.d (tupI g)), r4, r5, a6, some (.d d.toD), o8, o9, a10, none]) :
    b2_law_is_right D [some (.hand L_hand), some (.d (tupI js)), some (.d (tupI f)), some (.d (tupI g)), r4, r5, a6, some (.d d.toD), a8, a9, a10, none] X := by
  (try simp only [sumDD, eqS, reprD, wV, wC, wNil, wCons, wTup, wLst, wOp, wUn, wCall, wT, wNot, wAnd, wOr, wB, wAndV, wOrV, wNotV, wIf, wIsi, wChain, wNo, wPart, wSl, wSet, wSetO, wTg, wPnil, wPcons, wPar, wNext, wSeq, wRet, wRetO, wRetN, wIfS, wBrk, wCnt, wDrop, wFrz, wApp, wExt, wSetIx, wAugIx, wAug, wRnil, wRcons, wFn, wRaise, wWord, wRetH, wSetIxH, wCount, wIndex, wIsE, wListRg1, wListRg2, wYes, wIs, wIz, wIl, wIt, wIr1, wIr2, wSlS, wPop, wAppPop, R.wk, R.st, R.ar, R.bl, R.no, R.sq, R.slot, setsR, startR, List.map_cons, List.map_nil, List.cons_append, List.nil_append, List.length_cons, List.length_nil, List.replicate, List.getElem?_cons_zero, List.getElem?_cons_succ, Option.some.injEq, exists_eq_left', exists_eq_left, R.d.injEq, R.own.injEq, R.fr.injEq, List.set_cons_zero, List.set_cons_succ, addD, subD, mulDD, fdivD, modD, ltD, leD, gtD, geD, eqD, neD, isND, isnotND, inDD, notInDD, ixD, negD, lenD, absD, intD, min2D, max2D, listD, tupleD, slD, Nat.reduceAdd, Nat.reduceSub, Nat.add_zero, Nat.zero_add, true_and, and_true, ite_true, ite_false, if_true, if_false, Bool.false_eq_true, reduceIte, Option.some_inj, Bool.true_eq_false, tgW, tgWs, wipe3, List.set_nil, b2_law_is_right, wFor])
  refine for_rule (fun rest ρ => ∃ o8 o9, ρ = [some (.hand L_hand), some (.d (tupI js)), some (.d (tupI f)), some (.d (tupI g)), r4, r5, a6, some (.d d.toD), o8, o9, a10, none] ∧ ∀ x ∈ rest, ∃ fs, x = tupI fs ∧ GoodF js fs) _ _ ?_ ?_ ?_
  · refine ⟨a8, a9, rfl, fun x hx => ?_⟩
    simp only [List.mem_cons, List.not_mem_nil, or_false] at hx
    rcases hx with rfl | rfl
    · exact ⟨f, rfl, hf⟩
    · exact ⟨g, rfl, hg⟩
  · rintro ρ ⟨o8, o9, rfl, _⟩
    exact hN o8 o9
  · rintro x xs ρ ⟨o8, o9, rfl, hx⟩ N hN2
    obtain ⟨fs, rfl, hfs⟩ := hx x List.mem_cons_self
    simp only [tgW, List.set_cons_succ, List.set_cons_zero]
    exact p_right_b hj hfs ho fun o => hN2 _ ⟨_, o, rfl, fun y hy => hx y (List.mem_cons_of_mem _ hy)⟩
theorem p_right_d {D : End3} {X : Exc → Prop} {js f g : List Int} {xs : List PyData} {a6 a7 a8 a9 a10 r4 r5 : Option R} (hj : GoodJ js) (hf : GoodF js f) (hg : GoodF js g) (ho : ∀ x ∈ xs, ∃ d : Deed, x = d.toD ∧ d.ok js.length = true)
    (hN : ∀ o7 o8 o9, D.nx [some (.hand L_hand), some (.d (tupI js)), some (.d (tupI f)), some (.d (tupI g)), r4, r5, a6, o7, o8, o9, a10, none]) :
    forL (.one 7) b2_law_is_right D X xs [some (.hand L_hand), some (.d (tupI js)), some (.d (tupI f)), some (.d (tupI g)), r4, r5, a6, a7, a8, a9, a10, none] := by
  refine for_rule (fun rest ρ => ∃ o7 o8 o9, ρ = [some (.hand L_hand), some (.d (tupI js)), some (.d (tupI f)), some (.d (tupI g)), r4, r5, a6, o7, o8, o9, a10, none] ∧ ∀ x ∈ rest, ∃ d : Deed, x = d.toD ∧ d.ok js.length = true) _ _ ?_ ?_ ?_
  · exact ⟨a7, a8, a9, rfl, ho⟩
  · rintro ρ ⟨o7, o8, o9, rfl, _⟩
    exact hN o7 o8 o9
  · rintro x xs ρ ⟨o7, o8, o9, rfl, hx⟩ N hN2
    obtain ⟨d, rfl, hd⟩ := hx x List.mem_cons_self
    simp only [tgW, List.set_cons_succ, List.set_cons_zero]
    exact p_right_c (D := ⟨N, D.rt, D.nx, N⟩) hj hf hg hd fun o8 o9 => hN2 _ ⟨_, o8, o9, rfl, fun y hy => hx y (List.mem_cons_of_mem _ hy)⟩
theorem p_right_turn {D : End3} {X : Exc → Prop} {N : Env3 → Prop} {js g : List Int} {ds : List Deed} {a6 a7 a8 a9 : Option R} (hj : GoodJ js) (hg : GoodF js g) (ho : ∀ d ∈ ds, d.ok js.length = true) (hl : ds.length ≤ 50)
    (hN : ∀ (d : Deed) o8 o9, d.ok js.length = true → N [some (.hand L_hand), some (.d (tupI js)), some (.d (tupI (lastF js (zeros js.length) (ds ++ [d])))), some (.d (tupI g)), some (.own (rowsD (runF js (zeros js.length) (ds ++ [d])))), some (.own ((ds ++ [d]).map Deed.toD)), a6, some (.d d.toD), o8, o9, none, none]) :
    b1_law_is_right ⟨N, D.rt, D.nx, N⟩ [some (.hand L_hand), some (.d (tupI js)), some (.d (tupI (lastF js (zeros js.length) ds))), some (.d (tupI g)), some (.own (rowsD (runF js (zeros js.length) ds))), some (.own (ds.map Deed.toD)), a6, a7, a8, a9, none, none] X := by
  have hz := zeros_good hj
  have hf := lastF_good hj ds _ hz ho
  (try simp only [sumDD, eqS, reprD, wV, wC, wNil, wCons, wTup, wLst, wOp, wUn, wCall, wT, wNot, wAnd, wOr, wB, wAndV, wOrV, wNotV, wIf, wIsi, wChain, wNo, wPart, wSl, wSet, wSetO, wTg, wPnil, wPcons, wPar, wNext, wSeq, wRet, wRetO, wRetN, wIfS, wBrk, wCnt, wDrop, wFrz, wApp, wExt, wSetIx, wAugIx, wAug, wRnil, wRcons, wFn, wRaise, wWord, wRetH, wSetIxH, wCount, wIndex, wIsE, wListRg1, wListRg2, wYes, wIs, wIz, wIl, wIt, wIr1, wIr2, wSlS, wPop, wAppPop, R.wk, R.st, R.ar, R.bl, R.no, R.sq, R.slot, setsR, startR, List.map_cons, List.map_nil, List.cons_append, List.nil_append, List.length_cons, List.length_nil, List.replicate, List.getElem?_cons_zero, List.getElem?_cons_succ, Option.some.injEq, exists_eq_left', exists_eq_left, R.d.injEq, R.own.injEq, R.fr.injEq, List.set_cons_zero, List.set_cons_succ, addD, subD, mulDD, fdivD, modD, ltD, leD, gtD, geD, eqD, neD, isND, isnotND, inDD, notInDD, ixD, negD, lenD, absD, intD, min2D, max2D, listD, tupleD, slD, Nat.reduceAdd, Nat.reduceSub, Nat.add_zero, Nat.zero_add, true_and, and_true, ite_true, ite_false, if_true, if_false, Bool.false_eq_true, reduceIte, Option.some_inj, Bool.true_eq_false, tgW, tgWs, wipe3, List.set_nil, b1_law_is_right, wFor, C_law_all_deeds, List.length_map])
  refine ⟨js.length, rfl, hj.1, hj.2.1, fun ds1 _ _ ho1 => ?_⟩
  (try simp only [sumDD, eqS, reprD, wV, wC, wNil, wCons, wTup, wLst, wOp, wUn, wCall, wT, wNot, wAnd, wOr, wB, wAndV, wOrV, wNotV, wIf, wIsi, wChain, wNo, wPart, wSl, wSet, wSetO, wTg, wPnil, wPcons, wPar, wNext, wSeq, wRet, wRetO, wRetN, wIfS, wBrk, wCnt, wDrop, wFrz, wApp, wExt, wSetIx, wAugIx, wAug, wRnil, wRcons, wFn, wRaise, wWord, wRetH, wSetIxH, wCount, wIndex, wIsE, wListRg1, wListRg2, wYes, wIs, wIz, wIl, wIt, wIr1, wIr2, wSlS, wPop, wAppPop, R.wk, R.st, R.ar, R.bl, R.no, R.sq, R.slot, setsR, startR, List.map_cons, List.map_nil, List.cons_append, List.nil_append, List.length_cons, List.length_nil, List.replicate, List.getElem?_cons_zero, List.getElem?_cons_succ, Option.some.injEq, exists_eq_left', exists_eq_left, R.d.injEq, R.own.injEq, R.fr.injEq, List.set_cons_zero, List.set_cons_succ, addD, subD, mulDD, fdivD, modD, ltD, leD, gtD, geD, eqD, neD, isND, isnotND, inDD, notInDD, ixD, negD, lenD, absD, intD, min2D, max2D, listD, tupleD, slD, Nat.reduceAdd, Nat.reduceSub, Nat.add_zero, Nat.zero_add, true_and, and_true, ite_true, ite_false, if_true, if_false, Bool.false_eq_true, reduceIte, Option.some_inj, Bool.true_eq_false, tgW, tgWs, wipe3, List.set_nil])
  refine p_right_d hj hf hg (fun x hx => ?_) fun o7 o8 o9 => ?_
  · obtain ⟨d, hd, rfl⟩ := List.mem_map.mp hx
    exact ⟨d, rfl, ho1 d hd⟩
  (try simp only [sumDD, eqS, reprD, wV, wC, wNil, wCons, wTup, wLst, wOp, wUn, wCall, wT, wNot, wAnd, wOr, wB, wAndV, wOrV, wNotV, wIf, wIsi, wChain, wNo, wPart, wSl, wSet, wSetO, wTg, wPnil, wPcons, wPar, wNext, wSeq, wRet, wRetO, wRetN, wIfS, wBrk, wCnt, wDrop, wFrz, wApp, wExt, wSetIx, wAugIx, wAug, wRnil, wRcons, wFn, wRaise, wWord, wRetH, wSetIxH, wCount, wIndex, wIsE, wListRg1, wListRg2, wYes, wIs, wIz, wIl, wIt, wIr1, wIr2, wSlS, wPop, wAppPop, R.wk, R.st, R.ar, R.bl, R.no, R.sq, R.slot, setsR, startR, List.map_cons, List.map_nil, List.cons_append, List.nil_append, List.length_cons, List.length_nil, List.replicate, List.getElem?_cons_zero, List.getElem?_cons_succ, Option.some.injEq, exists_eq_left', exists_eq_left, R.d.injEq, R.own.injEq, R.fr.injEq, List.set_cons_zero, List.set_cons_succ, addD, subD, mulDD, fdivD, modD, ltD, leD, gtD, geD, eqD, neD, isND, isnotND, inDD, notInDD, ixD, negD, lenD, absD, intD, min2D, max2D, listD, tupleD, slD, Nat.reduceAdd, Nat.reduceSub, Nat.add_zero, Nat.zero_add, true_and, and_true, ite_true, ite_false, if_true, if_false, Bool.false_eq_true, reduceIte, Option.some_inj, Bool.true_eq_false, tgW, tgWs, wipe3, List.set_nil, b1_law_is_right_1, C_law_all_deeds, C_law_any, List.length_map])
  refine ⟨js.length, rfl, hj.1, hj.2.1, fun ds2 hne hl2 ho2 => ?_⟩
  (try simp only [sumDD, eqS, reprD, wV, wC, wNil, wCons, wTup, wLst, wOp, wUn, wCall, wT, wNot, wAnd, wOr, wB, wAndV, wOrV, wNotV, wIf, wIsi, wChain, wNo, wPart, wSl, wSet, wSetO, wTg, wPnil, wPcons, wPar, wNext, wSeq, wRet, wRetO, wRetN, wIfS, wBrk, wCnt, wDrop, wFrz, wApp, wExt, wSetIx, wAugIx, wAug, wRnil, wRcons, wFn, wRaise, wWord, wRetH, wSetIxH, wCount, wIndex, wIsE, wListRg1, wListRg2, wYes, wIs, wIz, wIl, wIt, wIr1, wIr2, wSlS, wPop, wAppPop, R.wk, R.st, R.ar, R.bl, R.no, R.sq, R.slot, setsR, startR, List.map_cons, List.map_nil, List.cons_append, List.nil_append, List.length_cons, List.length_nil, List.replicate, List.getElem?_cons_zero, List.getElem?_cons_succ, Option.some.injEq, exists_eq_left', exists_eq_left, R.d.injEq, R.own.injEq, R.fr.injEq, List.set_cons_zero, List.set_cons_succ, addD, subD, mulDD, fdivD, modD, ltD, leD, gtD, geD, eqD, neD, isND, isnotND, inDD, notInDD, ixD, negD, lenD, absD, intD, min2D, max2D, listD, tupleD, slD, Nat.reduceAdd, Nat.reduceSub, Nat.add_zero, Nat.zero_add, true_and, and_true, ite_true, ite_false, if_true, if_false, Bool.false_eq_true, reduceIte, Option.some_inj, Bool.true_eq_false, tgW, tgWs, wipe3, List.set_nil])
  refine ⟨_, rfl, by rw [List.length_map]; exact List.length_pos_iff.mpr hne, by rw [List.length_map]; omega, fun x hx => ?_⟩
  obtain ⟨d, hd, rfl⟩ := List.mem_map.mp hx
  (try simp only [sumDD, eqS, reprD, wV, wC, wNil, wCons, wTup, wLst, wOp, wUn, wCall, wT, wNot, wAnd, wOr, wB, wAndV, wOrV, wNotV, wIf, wIsi, wChain, wNo, wPart, wSl, wSet, wSetO, wTg, wPnil, wPcons, wPar, wNext, wSeq, wRet, wRetO, wRetN, wIfS, wBrk, wCnt, wDrop, wFrz, wApp, wExt, wSetIx, wAugIx, wAug, wRnil, wRcons, wFn, wRaise, wWord, wRetH, wSetIxH, wCount, wIndex, wIsE, wListRg1, wListRg2, wYes, wIs, wIz, wIl, wIt, wIr1, wIr2, wSlS, wPop, wAppPop, R.wk, R.st, R.ar, R.bl, R.no, R.sq, R.slot, setsR, startR, List.map_cons, List.map_nil, List.cons_append, List.nil_append, List.length_cons, List.length_nil, List.replicate, List.getElem?_cons_zero, List.getElem?_cons_succ, Option.some.injEq, exists_eq_left', exists_eq_left, R.d.injEq, R.own.injEq, R.fr.injEq, List.set_cons_zero, List.set_cons_succ, addD, subD, mulDD, fdivD, modD, ltD, leD, gtD, geD, eqD, neD, isND, isnotND, inDD, notInDD, ixD, negD, lenD, absD, intD, min2D, max2D, listD, tupleD, slD, Nat.reduceAdd, Nat.reduceSub, Nat.add_zero, Nat.zero_add, true_and, and_true, ite_true, ite_false, if_true, if_false, Bool.false_eq_true, reduceIte, Option.some_inj, Bool.true_eq_false, tgW, tgWs, wipe3, List.set_nil, b1_law_is_right_2, C_law_done])
  refine ⟨_, _, _, rfl, hf.1, ho2 d hd, ?_⟩
  (try simp only [sumDD, eqS, reprD, wV, wC, wNil, wCons, wTup, wLst, wOp, wUn, wCall, wT, wNot, wAnd, wOr, wB, wAndV, wOrV, wNotV, wIf, wIsi, wChain, wNo, wPart, wSl, wSet, wSetO, wTg, wPnil, wPcons, wPar, wNext, wSeq, wRet, wRetO, wRetN, wIfS, wBrk, wCnt, wDrop, wFrz, wApp, wExt, wSetIx, wAugIx, wAug, wRnil, wRcons, wFn, wRaise, wWord, wRetH, wSetIxH, wCount, wIndex, wIsE, wListRg1, wListRg2, wYes, wIs, wIz, wIl, wIt, wIr1, wIr2, wSlS, wPop, wAppPop, R.wk, R.st, R.ar, R.bl, R.no, R.sq, R.slot, setsR, startR, List.map_cons, List.map_nil, List.cons_append, List.nil_append, List.length_cons, List.length_nil, List.replicate, List.getElem?_cons_zero, List.getElem?_cons_succ, Option.some.injEq, exists_eq_left', exists_eq_left, R.d.injEq, R.own.injEq, R.fr.injEq, List.set_cons_zero, List.set_cons_succ, addD, subD, mulDD, fdivD, modD, ltD, leD, gtD, geD, eqD, neD, isND, isnotND, inDD, notInDD, ixD, negD, lenD, absD, intD, min2D, max2D, listD, tupleD, slD, Nat.reduceAdd, Nat.reduceSub, Nat.add_zero, Nat.zero_add, true_and, and_true, ite_true, ite_false, if_true, if_false, Bool.false_eq_true, reduceIte, Option.some_inj, Bool.true_eq_false, tgW, tgWs, wipe3, List.set_nil])
  have z := hN d o8 o9 (ho2 d hd)
  rw [lastF_snoc, runF_snoc] at z
  refine ⟨?_, ?_, ?_⟩
  · unfold rowsD
    rw [List.length_map, runF_len, sizeLine_eq]
    omega
  · rw [List.length_map, sizeLine_eq]
    omega
  · unfold rowsD at z ⊢
    rw [List.map_append, List.map_append] at z
    exact z
theorem made_good : ∀ {js : List Int} {ys : List PyData}, Made (fun x o => ∃ y, o = some y ∧ ∃ j i : Int, x = .int j ∧ y = .int i ∧ 0 ≤ i ∧ i ≤ j) (js.map .int) ys → ∃ g : List Int, ys = g.map .int ∧ GoodF js g
  | [], _, .nil => ⟨[], rfl, rfl, fun i hi => absurd hi (Nat.not_lt_zero _)⟩
  | j :: js, _, .keep ⟨y, h, j', i, e1, e2, i0, i1⟩ r => by
    cases h
    cases e1
    subst e2
    obtain ⟨g, rfl, hl, hg⟩ := made_good r
    refine ⟨i :: g, rfl, by simp [hl], fun k hk => ?_⟩
    cases k with
    | zero => exact ⟨i0, i1⟩
    | succ k => exact hg k (by simpa using hk)
  | _ :: _, _, .drop h _ => by obtain ⟨y, h, _⟩ := h; cases h
theorem p_law_is_right : ∀ rs Q X, C_law_is_right rs Q X → w_law_is_right ⟨fun _ => Q (.d .none), Q, fun _ => False, fun _ => False⟩ (startR N_law_is_right rs) X := by
  rintro rs Q X ⟨js, rfl, hj, h⟩
  have hz := zeros_good hj
  have h3 := hj.2.1
  have h1 := hj.1
  (try simp only [sumDD, eqS, reprD, wV, wC, wNil, wCons, wTup, wLst, wOp, wUn, wCall, wT, wNot, wAnd, wOr, wB, wAndV, wOrV, wNotV, wIf, wIsi, wChain, wNo, wPart, wSl, wSet, wSetO, wTg, wPnil, wPcons, wPar, wNext, wSeq, wRet, wRetO, wRetN, wIfS, wBrk, wCnt, wDrop, wFrz, wApp, wExt, wSetIx, wAugIx, wAug, wRnil, wRcons, wFn, wRaise, wWord, wRetH, wSetIxH, wCount, wIndex, wIsE, wListRg1, wListRg2, wYes, wIs, wIz, wIl, wIt, wIr1, wIr2, wSlS, wPop, wAppPop, R.wk, R.st, R.ar, R.bl, R.no, R.sq, R.slot, setsR, startR, List.map_cons, List.map_nil, List.cons_append, List.nil_append, List.length_cons, List.length_nil, List.replicate, List.getElem?_cons_zero, List.getElem?_cons_succ, Option.some.injEq, exists_eq_left', exists_eq_left, R.d.injEq, R.own.injEq, R.fr.injEq, List.set_cons_zero, List.set_cons_succ, addD, subD, mulDD, fdivD, modD, ltD, leD, gtD, geD, eqD, neD, isND, isnotND, inDD, notInDD, ixD, negD, lenD, absD, intD, min2D, max2D, listD, tupleD, slD, Nat.reduceAdd, Nat.reduceSub, Nat.add_zero, Nat.zero_add, true_and, and_true, ite_true, ite_false, if_true, if_false, Bool.false_eq_true, reduceIte, Option.some_inj, Bool.true_eq_false, tgW, tgWs, wipe3, List.set_nil, w_law_is_right, wLc, tupI, List.length_map])
  refine ⟨⟨by omega, by omega, by decide⟩, ?_⟩
  rw [Int.toNat_natCast, zeros_D]
  refine lc_all (fun x y => ∃ j i : Int, x = .int j ∧ y = .int i ∧ 0 ≤ i ∧ i ≤ j) _ (fun x hx k hk => ?_) fun ys hy => ?_
  · obtain ⟨j, hjm, rfl⟩ := List.mem_map.mp hx
    have hb := hj.2.2 j hjm
    (try simp only [sumDD, eqS, reprD, wV, wC, wNil, wCons, wTup, wLst, wOp, wUn, wCall, wT, wNot, wAnd, wOr, wB, wAndV, wOrV, wNotV, wIf, wIsi, wChain, wNo, wPart, wSl, wSet, wSetO, wTg, wPnil, wPcons, wPar, wNext, wSeq, wRet, wRetO, wRetN, wIfS, wBrk, wCnt, wDrop, wFrz, wApp, wExt, wSetIx, wAugIx, wAug, wRnil, wRcons, wFn, wRaise, wWord, wRetH, wSetIxH, wCount, wIndex, wIsE, wListRg1, wListRg2, wYes, wIs, wIz, wIl, wIt, wIr1, wIr2, wSlS, wPop, wAppPop, R.wk, R.st, R.ar, R.bl, R.no, R.sq, R.slot, setsR, startR, List.map_cons, List.map_nil, List.cons_append, List.nil_append, List.length_cons, List.length_nil, List.replicate, List.getElem?_cons_zero, List.getElem?_cons_succ, Option.some.injEq, exists_eq_left', exists_eq_left, R.d.injEq, R.own.injEq, R.fr.injEq, List.set_cons_zero, List.set_cons_succ, addD, subD, mulDD, fdivD, modD, ltD, leD, gtD, geD, eqD, neD, isND, isnotND, inDD, notInDD, ixD, negD, lenD, absD, intD, min2D, max2D, listD, tupleD, slD, Nat.reduceAdd, Nat.reduceSub, Nat.add_zero, Nat.zero_add, true_and, and_true, ite_true, ite_false, if_true, if_false, Bool.false_eq_true, reduceIte, Option.some_inj, Bool.true_eq_false, tgW, tgWs, wipe3, List.set_nil, C_law_draw, C_draw])
    refine ⟨_, rfl, by omega, by omega, fun n n0 n1 => ?_⟩
    exact hk _ ⟨j, n, rfl, rfl, n0, by omega⟩
  · obtain ⟨g, rfl, hg⟩ := made_good hy
    (try simp only [sumDD, eqS, reprD, wV, wC, wNil, wCons, wTup, wLst, wOp, wUn, wCall, wT, wNot, wAnd, wOr, wB, wAndV, wOrV, wNotV, wIf, wIsi, wChain, wNo, wPart, wSl, wSet, wSetO, wTg, wPnil, wPcons, wPar, wNext, wSeq, wRet, wRetO, wRetN, wIfS, wBrk, wCnt, wDrop, wFrz, wApp, wExt, wSetIx, wAugIx, wAug, wRnil, wRcons, wFn, wRaise, wWord, wRetH, wSetIxH, wCount, wIndex, wIsE, wListRg1, wListRg2, wYes, wIs, wIz, wIl, wIt, wIr1, wIr2, wSlS, wPop, wAppPop, R.wk, R.st, R.ar, R.bl, R.no, R.sq, R.slot, setsR, startR, List.map_cons, List.map_nil, List.cons_append, List.nil_append, List.length_cons, List.length_nil, List.replicate, List.getElem?_cons_zero, List.getElem?_cons_succ, Option.some.injEq, exists_eq_left', exists_eq_left, R.d.injEq, R.own.injEq, R.fr.injEq, List.set_cons_zero, List.set_cons_succ, addD, subD, mulDD, fdivD, modD, ltD, leD, gtD, geD, eqD, neD, isND, isnotND, inDD, notInDD, ixD, negD, lenD, absD, intD, min2D, max2D, listD, tupleD, slD, Nat.reduceAdd, Nat.reduceSub, Nat.add_zero, Nat.zero_add, true_and, and_true, ite_true, ite_false, if_true, if_false, Bool.false_eq_true, reduceIte, Option.some_inj, Bool.true_eq_false, tgW, tgWs, wipe3, List.set_nil, w_law_is_right_1, w_law_is_right_2, wFor, C_law_draw, C_draw])
    refine ⟨10, rfl, by decide, by decide, fun n n0 n1 => ?_⟩
    (try simp only [sumDD, eqS, reprD, wV, wC, wNil, wCons, wTup, wLst, wOp, wUn, wCall, wT, wNot, wAnd, wOr, wB, wAndV, wOrV, wNotV, wIf, wIsi, wChain, wNo, wPart, wSl, wSet, wSetO, wTg, wPnil, wPcons, wPar, wNext, wSeq, wRet, wRetO, wRetN, wIfS, wBrk, wCnt, wDrop, wFrz, wApp, wExt, wSetIx, wAugIx, wAug, wRnil, wRcons, wFn, wRaise, wWord, wRetH, wSetIxH, wCount, wIndex, wIsE, wListRg1, wListRg2, wYes, wIs, wIz, wIl, wIt, wIr1, wIr2, wSlS, wPop, wAppPop, R.wk, R.st, R.ar, R.bl, R.no, R.sq, R.slot, setsR, startR, List.map_cons, List.map_nil, List.cons_append, List.nil_append, List.length_cons, List.length_nil, List.replicate, List.getElem?_cons_zero, List.getElem?_cons_succ, Option.some.injEq, exists_eq_left', exists_eq_left, R.d.injEq, R.own.injEq, R.fr.injEq, List.set_cons_zero, List.set_cons_succ, addD, subD, mulDD, fdivD, modD, ltD, leD, gtD, geD, eqD, neD, isND, isnotND, inDD, notInDD, ixD, negD, lenD, absD, intD, min2D, max2D, listD, tupleD, slD, Nat.reduceAdd, Nat.reduceSub, Nat.add_zero, Nat.zero_add, true_and, and_true, ite_true, ite_false, if_true, if_false, Bool.false_eq_true, reduceIte, Option.some_inj, Bool.true_eq_false, tgW, tgWs, wipe3, List.set_nil])
    refine ⟨⟨by omega, by omega⟩, ?_⟩
    refine for_rule (fun rest ρ => ∃ (ds : List Deed) (o6 o7 o8 o9 : Option R), ρ = [some (.hand L_hand), some (.d (tupI js)), some (.d (tupI (lastF js (zeros js.length) ds))), some (.d (tupI g)), some (.own (rowsD (runF js (zeros js.length) ds))), some (.own (ds.map Deed.toD)), o6, o7, o8, o9, none, none] ∧
      (∀ d ∈ ds, d.ok js.length = true) ∧ ds.length + rest.length ≤ 20) _ _ ?_ ?_ ?_
    · refine ⟨[], none, none, none, none, rfl, fun _ h => (by cases h), ?_⟩
      rw [rgD_len (by omega)]
      simp
      omega
    · rintro ρ ⟨ds, o6, o7, o8, o9, rfl, ho, hl⟩
      exact p_right_3 hj ho (by simp at hl; omega) h
    · rintro x xs ρ ⟨ds, o6, o7, o8, o9, rfl, ho, hl⟩ N hN
      simp only [tgW, List.set_cons_succ, List.set_cons_zero]
      rw [List.length_cons] at hl
      refine p_right_turn (D := ⟨_, Q, fun _ => False, fun _ => False⟩) hj hg ho (by omega) fun d o8 o9 hd => hN _ ⟨ds ++ [d], _, _, o8, o9, rfl, fun e he => ?_, ?_⟩
      · rcases List.mem_append.mp he with he | he
        · exact ho e he
        · rw [List.mem_singleton.mp he]
          exact hd
      · rw [List.length_append, List.length_singleton]
        omega
theorem ok_law_is_right (D : Txt K mg base T) : Cal true P w K mg base T 6 "_law_is_right" C_law_is_right :=
  cal_of (wb := w_law_is_right) D.d_law_is_right sc_law_is_right bi_law_is_right l_law_is_right (fun f cdv A outer s H E hp hr hgd => ess_cons (es_par (i := 2) (j := 3) rfl sc_law_is_right.nd rfl rfl (by decide) rfl rfl (ep_cons (ev_op op_mulDD (ev_tup (el_cons selS (ev_int) (el_nil))) (ev_callB cr_len rfl D.n_len bb_len (el_cons selW (ev_var (pv 1)) (el_nil)))) (ep_cons (ev_callTy cr_tuple rfl D.n_tuple bb_tuple (el_cons selW (ev_lc (own := [("size", 11)]) (g := .one 11) rfl sc_law_is_right.nd (ei_seq (ev_var (pv 1))) (blkOk_by (N := N_law_is_right) (sc := defScope s_law_is_right) (by decide +kernel)) (by decide) (fun _ _ _ _ _ => pg_name (i := 11) sc_law_is_right.nd rfl (Or.inl rfl)) (fun _ _ _ _ _ => eb_yes) (fun _ _ _ _ _ => ev_fnC (ok_law_draw D) hr (by decide) (fun h => by cases h) rfl passL (er_cons (ev_var (pv 0)) (er_cons (ev_op op_addD (ev_var (pv 11)) (ev_int)) (er_nil))))) (el_nil))) (ep_nil))) rfl) (ess_cons (es_par (i := 4) (j := 5) rfl sc_law_is_right.nd rfl rfl (by decide) rfl rfl (ep_cons (ev_lst (el_cons selS (ev_var (pv 2)) (el_nil))) (ep_cons (ev_lst (el_nil)) (ep_nil))) rfl) (ess_cons (es_for (g := .one 6) own_cx rfl (ei_rg1 rfl D.n_range (ev_op op_addD (ev_int) (ev_fnC (ok_law_draw D) hr (by decide) (fun h => by cases h) rfl pass_cx (er_cons (ev_var (pv 0)) (er_cons (ev_int) (er_nil)))))) (pg_name (i := 6) sc_law_is_right.nd rfl (by first | exact Or.inl rfl | exact Or.inr rfl)) (ess_cons (es_for (g := .one 7) own_cx rfl (ei_seq (ev_fnC (ok_law_all_deeds D) hr (by decide) (fun h => by cases h) rfl pass_cx (er_cons (ev_callB cr_len rfl D.n_len bb_len (el_cons selW (ev_var (pv 1)) (el_nil))) (er_nil)))) (pg_name (i := 7) sc_law_is_right.nd rfl (by first | exact Or.inl rfl | exact Or.inr rfl)) (ess_one (es_for (g := .one 8) own_cx rfl (ei_tup (ev_tup (el_cons selS (ev_var (pv 2)) (el_cons selS (ev_var (pv 3)) (el_nil))))) (pg_name (i := 8) sc_law_is_right.nd rfl (by first | exact Or.inl rfl | exact Or.inr rfl)) (ess_cons (es_set (i := 9) sc_law_is_right.nd rfl (by first | exact Or.inl rfl | exact Or.inr rfl) (ev_fnC (ok_law_done D) hr (by decide) (fun h => by cases h) rfl pass_cx (er_cons (ev_var (pv 1)) (er_cons (ev_var (pv 8)) (er_cons (ev_var (pv 7)) (er_nil)))))) (ess_cons (es_if (et_not (et_val (ev_fnC (ok_law_same D) hr (by decide) hgd rfl pass_cx (er_cons (ev_fnC (ok_behind D) hr (by decide) (fun h => by cases h) rfl pass_cx (er_cons (ev_var (pv 1)) (er_cons (ev_var (pv 8)) (er_cons (ev_var (pv 7)) (er_nil))))) (er_cons (ev_var (pv 9)) (er_nil)))))) (ess_one (es_ret (ev_bl))) (ess_nil)) (ess_one (es_if (PW.pt (ew_and (et_cmp (op_eqT (u64 hr)) (ev_ix ix_D (ev_var (pv 7)) (ev_int) (fun _ _ => rfl)) (ev_str) (nomark _)) (ew_and1 (et_cmp (op_neT (u64 hr)) (ev_callB (cr_sumDD rfl) rfl D.n_sum bb_sum (el_cons selW (ev_var (pv 9)) (el_nil))) (ev_callB (cr_sumDD rfl) rfl D.n_sum bb_sum (el_cons selW (ev_var (pv 8)) (el_nil))) (nomark _))))) (ess_one (es_ret (ev_bl))) (ess_nil)))))))) (ess_cons (es_set (i := 7) sc_law_is_right.nd rfl (by first | exact Or.inl rfl | exact Or.inr rfl) (ev_fnC (ok_law_any D) hr (by decide) (fun h => by cases h) rfl pass_cx (er_cons (ev_var (pv 0)) (er_cons (ev_fnC (ok_law_all_deeds D) hr (by decide) (fun h => by cases h) rfl pass_cx (er_cons (ev_callB cr_len rfl D.n_len bb_len (el_cons selW (ev_var (pv 1)) (el_nil))) (er_nil))) (er_nil))))) (ess_cons (es_set (i := 2) sc_law_is_right.nd rfl (by first | exact Or.inl rfl | exact Or.inr rfl) (ev_fnC (ok_law_done D) hr (by decide) (fun h => by cases h) rfl pass_cx (er_cons (ev_var (pv 1)) (er_cons (ev_var (pv 2)) (er_cons (ev_var (pv 7)) (er_nil)))))) (ess_cons (es_app (pv 4) (ev_var (pv 2))) (ess_one (es_app (pv 5) (ev_var (pv 7))))))))) (ess_cons (es_if (PW.pt (ew_or (et_not (et_val (ev_fnC (ok_law_same D) hr (by decide) hgd rfl pass_cx (er_cons (ev_fnC (ok_run_of D) hr (by decide) (fun h => by cases h) rfl pass_cx (er_cons (ev_var (pv 1)) (er_cons (ev_callTy cr_tuple rfl D.n_tuple bb_tuple (el_cons selW (ev_var (pv 5)) (el_nil))) (er_nil)))) (er_cons (ev_callTy cr_tuple rfl D.n_tuple bb_tuple (el_cons selW (ev_var (pv 4)) (el_nil))) (er_nil)))))) (ew_or1 (et_cmp (op_neT (u64 hr)) (ev_fnC (ok_run_of D) hr (by decide) (fun h => by cases h) rfl pass_cx (er_cons (ev_var (pv 1)) (er_cons (ev_tup (el_nil)) (er_nil)))) (ev_tup (el_cons selS (ev_ix ix_D (ev_var (pv 4)) (ev_int) (fun _ _ => rfl)) (el_nil))) (nomark _))))) (ess_one (es_ret (ev_bl))) (ess_nil)) (ess_cons (es_set (i := 10) sc_law_is_right.nd rfl (by first | exact Or.inl rfl | exact Or.inr rfl) (ev_fnC (ok_law_draw D) hr (by decide) (fun h => by cases h) rfl pass_cx (er_cons (ev_var (pv 0)) (er_cons (ev_op op_addD (ev_callB cr_len rfl D.n_len bb_len (el_cons selW (ev_var (pv 5)) (el_nil))) (ev_int)) (er_nil))))) (ess_one (es_ret (ev_cmp (op_eqT (u64 hr)) (ev_fnC (ok_run_of D) hr (by decide) (fun h => by cases h) rfl pass_cx (er_cons (ev_var (pv 1)) (er_cons (ev_callTy cr_tuple rfl D.n_tuple bb_tuple (el_cons selW (ev_sl (ev_var (pv 5)) eo_no (eo_part (ev_var (pv 10)))) (el_nil))) (er_nil)))) (ev_callTy cr_tuple rfl D.n_tuple bb_tuple (el_cons selW (ev_sl (ev_var (pv 4)) eo_no (eo_part (ev_op op_addD (ev_var (pv 10)) (ev_int)))) (el_nil))) (nomark _))))))))) p_law_is_right
/-! ### _law_are_refused -/
abbrev N_law_are_refused : List Str := ["hand", "jugs", "none", "deed", "first", "some", "bad", "words", "deeds"]
theorem sc_law_are_refused : FnScope N_law_are_refused ["hand", "jugs"] (defScope s_law_are_refused) := ⟨rfl, rfl, rfl, by decide +kernel, rfl, by decide +kernel, by decide +kernel⟩
theorem bi_law_are_refused : BindsBy "_law_are_refused" s_law_are_refused ["hand", "jugs"] := fun _ _ _ _ _ _ us hl => match us, hl with | [_, _], _ => rfl
def w_law_are_refused_11 : WS := wRet (wOp eqD (wV 7) (wLst (wCons R.st (wC (.str "jugs")) (wCons R.st (wC (.str "filling")) (wCons R.st (wC (.str "deed")) (wCons R.st (wC (.str "told")) (wCons R.st (wC (.str "jugs")) (wCons R.st (wC (.str "deeds")) (wCons R.st (wC (.str "told")) (wNil))))))))))
def w_law_are_refused_10 : WS := wSeq (wApp 7 (wWord told_law_word_of wd_law_word_of (wFn C_run_of (wRcons (wV 1) (wRcons (wOp mulDD (wTup (wCons R.st (wTup (wCons R.st (wC (.str "fill")) (wCons R.st (wC (.int 0)) (wNil)))) (wNil))) (wC (.int 200))) (wRnil)))))) (w_law_are_refused_11)
def w_law_are_refused_9 : WS := wSeq (wApp 7 (wWord told_law_word_of wd_law_word_of (wFn C_run_of (wRcons (wV 1) (wRcons (wV 8) (wRnil)))))) (w_law_are_refused_10)
def w_law_are_refused_8 : WS := wSeq (wApp 7 (wWord told_law_word_of wd_law_word_of (wFn C_run_of (wRcons (wV 2) (wRcons (wV 8) (wRnil)))))) (w_law_are_refused_9)
def w_law_are_refused_7 : WS := wSeq (wSet 8 (wFn C_law_any (wRcons (wV 0) (wRcons (wLst (wCons R.st (wC .none) (wCons R.st (wC (.int 0)) (wCons R.st (wLst (wCons R.st (wTup (wCons R.st (wC (.str "fill")) (wCons R.st (wC (.int 0)) (wNil)))) (wNil))) (wCons R.st (wTup (wCons R.st (wV 3) (wNil))) (wCons R.st (wTup (wCons R.st (wTup (wCons R.st (wC (.str "fill")) (wCons R.st (wC (.int 0)) (wNil)))) (wCons R.st (wV 3) (wNil)))) (wCons R.st (wOp mulDD (wTup (wCons R.st (wTup (wCons R.st (wC (.str "fill")) (wCons R.st (wC (.int 0)) (wNil)))) (wNil))) (wC (.int 201))) (wCons R.st (wC (.dict [])) (wNil))))))))) (wRnil))))) (w_law_are_refused_8)
def w_law_are_refused_6 : WS := wSeq (wApp 7 (wWord told_law_word_of wd_law_word_of (wFn C_behind (wRcons (wV 1) (wRcons (wV 1) (wRcons (wTup (wCons R.st (wC (.str "empty")) (wCons R.st (wC (.int 0)) (wNil)))) (wRnil))))))) (w_law_are_refused_7)
def w_law_are_refused_5 : WS := wSeq (wApp 7 (wWord told_law_word_of wd_law_word_of (wFn C_behind (wRcons (wV 1) (wRcons (wV 4) (wRcons (wV 3) (wRnil))))))) (w_law_are_refused_6)
def w_law_are_refused_4 : WS := wSeq (wApp 7 (wWord told_law_word_of wd_law_word_of (wFn C_behind (wRcons (wV 1) (wRcons (wV 6) (wRcons (wV 3) (wRnil))))))) (w_law_are_refused_5)
def w_law_are_refused_3 : WS := wSeq (wSetO 7 (wLst (wCons R.st (wWord told_law_word_of wd_law_word_of (wFn C_behind (wRcons (wV 2) (wRcons (wV 6) (wRcons (wV 3) (wRnil)))))) (wNil)))) (w_law_are_refused_4)
def w_law_are_refused_2 : WS := wSeq (wSet 6 (wFn C_law_any (wRcons (wV 0) (wRcons (wOp addD (wV 5) (wLst (wCons R.st (wOp addD (wTup (wCons R.st (wC (.bool false)) (wNil))) (wSl (wV 4) (wPart (wC (.int 1))) wNo)) (wCons R.st (wC (.dict [])) (wCons R.st (wOp addD (wTup (wCons R.st (wC .none) (wNil))) (wSl (wV 4) (wPart (wC (.int 1))) wNo)) (wNil)))))) (wRnil))))) (w_law_are_refused_3)
def w_law_are_refused_1 : WS := wSeq (wSet 5 (wLst (wCons R.st (wC .none) (wCons R.st (wC (.int 0)) (wCons R.st (wCall listD (wCons R.wk (wV 4) (wNil))) (wCons R.st (wOp addD (wV 4) (wTup (wCons R.st (wC (.int 0)) (wNil)))) (wCons R.st (wSl (wV 4) (wPart (wC (.int 1))) wNo) (wCons R.st (wOp addD (wTup (wCons R.st (wOp addD (wOp ixD (wV 1) (wC (.int 0))) (wC (.int 1))) (wNil))) (wSl (wV 4) (wPart (wC (.int 1))) wNo)) (wCons R.st (wOp addD (wTup (wCons R.st (wUn negD (wC (.int 1))) (wNil))) (wSl (wV 4) (wPart (wC (.int 1))) wNo)) (wNil)))))))))) (w_law_are_refused_2)
def w_law_are_refused : WS := wSeq (wPar [2, 3, 4] (wPcons false (wFn C_law_no_jugs (wRcons (wV 0) (wRnil))) (wPcons false (wFn C_law_no_deed (wRcons (wV 0) (wRcons (wCall lenD (wCons R.wk (wV 1) (wNil))) (wRnil)))) (wPcons false (wOp mulDD (wTup (wCons R.st (wC (.int 0)) (wNil))) (wCall lenD (wCons R.wk (wV 1) (wNil)))) (wPnil))))) (w_law_are_refused_1)
-- split
def C_law_are_refused : Ct := fun rs Q _ => ∃ js, rs = [.hand L_hand, .d (tupI js)] ∧ GoodJ js ∧ Q (.d (.bool true))
theorem l_law_are_refused : ∀ rs Q X, C_law_are_refused rs Q X → rs.length = 2 := by
  rintro rs Q X ⟨_, rfl, _⟩
  rfl
theorem behind_noJugs {x y z : PyData} {Q : R → Prop} {X : Exc → Prop} (hx : okJugs x = false) (hz : headOk z) (q : X ⟨"NoJugs", none⟩) : C_behind [.d x, .d y, .d z] Q X :=
  ⟨_, _, _, rfl, hz, fun _ => q, fun js hj e => by rw [e, hj] at hx; cases hx⟩
theorem behind_noFill {js : List Int} {y z : PyData} {Q : R → Prop} {X : Exc → Prop} (hj : GoodJ js) (hy : fillOk js y = false) (hz : headOk z) (q : X ⟨"NoFilling", none⟩) : C_behind [.d (tupI js), .d y, .d z] Q X := by
  refine ⟨_, _, _, rfl, hz, fun h => ?_, fun js' hj' e => ?_⟩
  · rw [goodJ_ok hj] at h
    cases h
  · have e1 := tupI_inj e
    subst e1
    refine ⟨fun _ => q, fun h => ?_, fun fs d h => ?_⟩
    · rw [hy] at h
      cases h
    · rw [hy] at h
      cases h
theorem behind_noDeed {js fs : List Int} {z : PyData} {Q : R → Prop} {X : Exc → Prop} (hj : GoodJ js) (hf : GoodF js fs) (hd : deedOk js.length z = false) (hz : headOk z) (q : X ⟨"NoDeed", none⟩) : C_behind [.d (tupI js), .d (tupI fs), .d z] Q X := by
  refine ⟨_, _, _, rfl, hz, fun h => ?_, fun js' hj' e => ?_⟩
  · rw [goodJ_ok hj] at h
    cases h
  · have e1 := tupI_inj e
    subst e1
    refine ⟨fun h => ?_, fun _ _ => q, fun fs d _ _ _ e2 ho => ?_⟩
    · rw [goodF_ok hf] at h
      cases h
    · rw [e2, ok_deed ho] at hd
      cases hd
theorem run_noJugs {x y : PyData} {Q : R → Prop} {X : Exc → Prop} (hx : okJugs x = false) (hy : headsOk y) (q : X ⟨"NoJugs", none⟩) : C_run_of [.d x, .d y] Q X :=
  ⟨_, _, rfl, hy, fun _ => q, fun js hj e => by rw [e, hj] at hx; cases hx⟩
theorem run_noDeeds {js : List Int} {y : PyData} {Q : R → Prop} {X : Exc → Prop} (hj : GoodJ js) (hy : headsOk y) (hd : deedsOk js.length y = false) (q : X ⟨"NoDeeds", none⟩) : C_run_of [.d (tupI js), .d y] Q X := by
  refine ⟨_, _, rfl, hy, fun h => ?_, fun js' hj' e => ?_⟩
  · rw [goodJ_ok hj] at h
    cases h
  · have e1 := tupI_inj e
    subst e1
    exact ⟨fun _ => q, fun ds e2 hok _ => by rw [hd] at hok; cases hok⟩
theorem wd1 : wd_law_word_of ⟨"NoJugs", none⟩ = some "jugs" := by decide +kernel
theorem wd2 : wd_law_word_of ⟨"NoFilling", none⟩ = some "filling" := by decide +kernel
theorem wd3 : wd_law_word_of ⟨"NoDeed", none⟩ = some "deed" := by decide +kernel
theorem wd4 : wd_law_word_of ⟨"NoDeeds", none⟩ = some "deeds" := by decide +kernel
/-- the fillings that are none -/
def badF (js' : List Int) (j : Int) : List PyData := [.none, .int 0, .list (((0 : Int) :: zeros js'.length).map .int), .tuple (((0 : Int) :: zeros js'.length).map .int ++ [.int 0]), .tuple ((zeros js'.length).map .int), .tuple ([.int (j + 1)] ++ (zeros js'.length).map .int),
  .tuple ([.int (-1)] ++ (zeros js'.length).map .int), .tuple ([.bool false] ++ (zeros js'.length).map .int), .dict [], .tuple ([.none] ++ (zeros js'.length).map .int)]
theorem fill_head {j : Int} {js' : List Int} {x : PyData} {r : List PyData} (h : within x 0 j = false) : fillOk (j :: js') (.tuple (x :: r)) = false := by
  unfold fillOk
  simp [h]
theorem fill_len {js : List Int} {r : List PyData} (h : r.length ≠ js.length) : fillOk js (.tuple r) = false := by
  unfold fillOk
  have e : sized (.tuple r) js.length js.length = false := by
    simp [sized]
    omega
  rw [e]
  rfl
theorem badF_bad {j : Int} {js' : List Int} : ∀ y ∈ badF js' j, fillOk (j :: js') y = false := by
  intro y hy
  unfold badF at hy
  simp only [List.mem_cons, List.not_mem_nil, or_false] at hy
  rcases hy with rfl | rfl | rfl | rfl | rfl | rfl | rfl | rfl | rfl | rfl
  · rfl
  · rfl
  · rfl
  · exact fill_len (by simp [zeros])
  · exact fill_len (by simp [zeros])
  · exact fill_head (by simp [within]; omega)
  · exact fill_head (by simp [within])
  · exact fill_head (by simp [within])
  · rfl
  · exact fill_head (by simp [within])
theorem self_good {js : List Int} (hj : GoodJ js) : GoodF js js := ⟨rfl, fun i hi => by
  rw [List.getD_eq_getElem?_getD, List.getElem?_eq_getElem hi]
  have := hj.2.2 _ (List.getElem_mem hi)
  exact ⟨by show 0 ≤ js[i]; omega, Int.le_refl _⟩⟩
theorem rep_flat (n : Nat) (d : Deed) : (List.replicate n [d.toD]).flatten = (List.replicate n d).map Deed.toD := by
  induction n with
  | zero => rfl
  | succ n ih =>
    rw [List.replicate_succ, List.flatten_cons, ih]
    rfl
theorem heads_1 {x : PyData} {xs : List PyData} (h : headOk x) (t : headsOk (.tuple xs)) : headsOk (.tuple (x :: xs)) := by
  intro ds e d hd
  cases e
  rcases List.mem_cons.mp hd with rfl | hd
  · exact h
  · exact t _ rfl d hd
theorem heads_0 : headsOk (.tuple []) := by
  intro ds e d hd
  cases e
  cases hd
abbrev f0 : PyData := .tuple [.str "fill", .int 0]
theorem f0_toD : f0 = (Deed.fill 0).toD := rfl
def badDs (z : PyData) : List PyData := [.none, .int 0, .list [f0], .tuple [z], .tuple [f0, z], .tuple (List.replicate (Int.toNat 201) [f0]).flatten, .dict []]
theorem badDs_bad {n : Nat} {z : PyData} (hz : deedOk n z = false) (hk : headOk z) : ∀ y ∈ badDs z, headsOk y ∧ deedsOk n y = false := by
  intro y hy
  unfold badDs at hy
  simp only [List.mem_cons, List.not_mem_nil, or_false] at hy
  have nt : ∀ y : PyData, (∀ ds, y ≠ .tuple ds) → headsOk y := fun y h ds e => (h ds e).elim
  rcases hy with rfl | rfl | rfl | rfl | rfl | rfl | rfl
  · exact ⟨nt _ (fun ds e => by cases e), rfl⟩
  · exact ⟨nt _ (fun ds e => by cases e), rfl⟩
  · exact ⟨nt _ (fun ds e => by cases e), rfl⟩
  · exact ⟨heads_1 hk heads_0, by simp [deedsOk, hz]⟩
  · exact ⟨heads_1 (by rw [f0_toD]; exact head_deed _) (heads_1 hk heads_0), by simp [deedsOk, hz]⟩
  · rw [f0_toD, rep_flat]
    refine ⟨heads_ok _, ?_⟩
    unfold deedsOk
    have e : sized (.tuple ((List.replicate (Int.toNat 201) (Deed.fill 0)).map Deed.toD)) 0 200 = false := by
      unfold sized
      simp only [List.length_map, List.length_replicate]
      rfl
    rw [e]
    rfl
  · exact ⟨nt _ (fun ds e => by cases e), rfl⟩
theorem p_law_are_refused : ∀ rs Q X, C_law_are_refused rs Q X → w_law_are_refused ⟨fun _ => Q (.d .none), Q, fun _ => False, fun _ => False⟩ (startR N_law_are_refused rs) X := by
  rintro rs Q X ⟨js, rfl, hj, h⟩
  have h1 := hj.1
  have h3 := hj.2.1
  obtain ⟨j, js', rfl⟩ : ∃ j js', js = j :: js' := by
    cases js with
    | nil => cases h1
    | cons j js' => exact ⟨j, js', rfl⟩
  rw [List.length_cons] at h1 h3
  (try simp only [sumDD, eqS, reprD, wV, wC, wNil, wCons, wTup, wLst, wOp, wUn, wCall, wT, wNot, wAnd, wOr, wB, wAndV, wOrV, wNotV, wIf, wIsi, wChain, wNo, wPart, wSl, wSet, wSetO, wTg, wPnil, wPcons, wPar, wNext, wSeq, wRet, wRetO, wRetN, wIfS, wBrk, wCnt, wDrop, wFrz, wApp, wExt, wSetIx, wAugIx, wAug, wRnil, wRcons, wFn, wRaise, wWord, wRetH, wSetIxH, wCount, wIndex, wIsE, wListRg1, wListRg2, wYes, wIs, wIz, wIl, wIt, wIr1, wIr2, wSlS, wPop, wAppPop, R.wk, R.st, R.ar, R.bl, R.no, R.sq, R.slot, setsR, startR, List.map_cons, List.map_nil, List.cons_append, List.nil_append, List.length_cons, List.length_nil, List.replicate, List.getElem?_cons_zero, List.getElem?_cons_succ, Option.some.injEq, exists_eq_left', exists_eq_left, R.d.injEq, R.own.injEq, R.fr.injEq, List.set_cons_zero, List.set_cons_succ, addD, subD, mulDD, fdivD, modD, ltD, leD, gtD, geD, eqD, neD, isND, isnotND, inDD, notInDD, ixD, negD, lenD, absD, intD, min2D, max2D, listD, tupleD, slD, Nat.reduceAdd, Nat.reduceSub, Nat.add_zero, Nat.zero_add, true_and, and_true, ite_true, ite_false, if_true, if_false, Bool.false_eq_true, reduceIte, Option.some_inj, Bool.true_eq_false, tgW, tgWs, wipe3, List.set_nil, w_law_are_refused, C_law_no_jugs, C_law_no_deed, tupI, List.length_map, List.map_cons])
  intro none hnone
  refine ⟨js'.length + 1, rfl, by omega, by omega, fun z hz hk => ?_⟩
  (try simp only [sumDD, eqS, reprD, wV, wC, wNil, wCons, wTup, wLst, wOp, wUn, wCall, wT, wNot, wAnd, wOr, wB, wAndV, wOrV, wNotV, wIf, wIsi, wChain, wNo, wPart, wSl, wSet, wSetO, wTg, wPnil, wPcons, wPar, wNext, wSeq, wRet, wRetO, wRetN, wIfS, wBrk, wCnt, wDrop, wFrz, wApp, wExt, wSetIx, wAugIx, wAug, wRnil, wRcons, wFn, wRaise, wWord, wRetH, wSetIxH, wCount, wIndex, wIsE, wListRg1, wListRg2, wYes, wIs, wIz, wIl, wIt, wIr1, wIr2, wSlS, wPop, wAppPop, R.wk, R.st, R.ar, R.bl, R.no, R.sq, R.slot, setsR, startR, List.map_cons, List.map_nil, List.cons_append, List.nil_append, List.length_cons, List.length_nil, List.replicate, List.getElem?_cons_zero, List.getElem?_cons_succ, Option.some.injEq, exists_eq_left', exists_eq_left, R.d.injEq, R.own.injEq, R.fr.injEq, List.set_cons_zero, List.set_cons_succ, addD, subD, mulDD, fdivD, modD, ltD, leD, gtD, geD, eqD, neD, isND, isnotND, inDD, notInDD, ixD, negD, lenD, absD, intD, min2D, max2D, listD, tupleD, slD, Nat.reduceAdd, Nat.reduceSub, Nat.add_zero, Nat.zero_add, true_and, and_true, ite_true, ite_false, if_true, if_false, Bool.false_eq_true, reduceIte, Option.some_inj, Bool.true_eq_false, tgW, tgWs, wipe3, List.set_nil])
  refine ⟨⟨by omega, by omega, by decide⟩, ?_⟩
  rw [Int.toNat_natCast, zeros_D]
  have ez : (zeros (js'.length + 1)).map PyData.int = PyData.int 0 :: (zeros js'.length).map .int := rfl
  rw [ez]
  (try simp only [sumDD, eqS, reprD, wV, wC, wNil, wCons, wTup, wLst, wOp, wUn, wCall, wT, wNot, wAnd, wOr, wB, wAndV, wOrV, wNotV, wIf, wIsi, wChain, wNo, wPart, wSl, wSet, wSetO, wTg, wPnil, wPcons, wPar, wNext, wSeq, wRet, wRetO, wRetN, wIfS, wBrk, wCnt, wDrop, wFrz, wApp, wExt, wSetIx, wAugIx, wAug, wRnil, wRcons, wFn, wRaise, wWord, wRetH, wSetIxH, wCount, wIndex, wIsE, wListRg1, wListRg2, wYes, wIs, wIz, wIl, wIt, wIr1, wIr2, wSlS, wPop, wAppPop, R.wk, R.st, R.ar, R.bl, R.no, R.sq, R.slot, setsR, startR, List.map_cons, List.map_nil, List.cons_append, List.nil_append, List.length_cons, List.length_nil, List.replicate, List.getElem?_cons_zero, List.getElem?_cons_succ, Option.some.injEq, exists_eq_left', exists_eq_left, R.d.injEq, R.own.injEq, R.fr.injEq, List.set_cons_zero, List.set_cons_succ, addD, subD, mulDD, fdivD, modD, ltD, leD, gtD, geD, eqD, neD, isND, isnotND, inDD, notInDD, ixD, negD, lenD, absD, intD, min2D, max2D, listD, tupleD, slD, Nat.reduceAdd, Nat.reduceSub, Nat.add_zero, Nat.zero_add, true_and, and_true, ite_true, ite_false, if_true, if_false, Bool.false_eq_true, reduceIte, Option.some_inj, Bool.true_eq_false, tgW, tgWs, wipe3, List.set_nil, w_law_are_refused_1, cut1, at0])
  have hzl : (List.map PyData.int (zeros js'.length)).length = js'.length := by rw [List.length_map, zeros_len]
  refine ⟨by rw [hzl, sizeLine_eq]; omega, by rw [hzl, sizeLine_eq]; omega, by rw [hzl, sizeLine_eq]; omega, ?_⟩
  (try simp only [sumDD, eqS, reprD, wV, wC, wNil, wCons, wTup, wLst, wOp, wUn, wCall, wT, wNot, wAnd, wOr, wB, wAndV, wOrV, wNotV, wIf, wIsi, wChain, wNo, wPart, wSl, wSet, wSetO, wTg, wPnil, wPcons, wPar, wNext, wSeq, wRet, wRetO, wRetN, wIfS, wBrk, wCnt, wDrop, wFrz, wApp, wExt, wSetIx, wAugIx, wAug, wRnil, wRcons, wFn, wRaise, wWord, wRetH, wSetIxH, wCount, wIndex, wIsE, wListRg1, wListRg2, wYes, wIs, wIz, wIl, wIt, wIr1, wIr2, wSlS, wPop, wAppPop, R.wk, R.st, R.ar, R.bl, R.no, R.sq, R.slot, setsR, startR, List.map_cons, List.map_nil, List.cons_append, List.nil_append, List.length_cons, List.length_nil, List.replicate, List.getElem?_cons_zero, List.getElem?_cons_succ, Option.some.injEq, exists_eq_left', exists_eq_left, R.d.injEq, R.own.injEq, R.fr.injEq, List.set_cons_zero, List.set_cons_succ, addD, subD, mulDD, fdivD, modD, ltD, leD, gtD, geD, eqD, neD, isND, isnotND, inDD, notInDD, ixD, negD, lenD, absD, intD, min2D, max2D, listD, tupleD, slD, Nat.reduceAdd, Nat.reduceSub, Nat.add_zero, Nat.zero_add, true_and, and_true, ite_true, ite_false, if_true, if_false, Bool.false_eq_true, reduceIte, Option.some_inj, Bool.true_eq_false, tgW, tgWs, wipe3, List.set_nil, w_law_are_refused_2, cut1, at0])
  refine ⟨by rw [hzl, sizeLine_eq]; omega, by rw [hzl, sizeLine_eq]; omega, by rw [sizeLine_eq]; omega, badF js' j, rfl, by show (0 : Nat) < 10; omega, by show (10 : Nat) < _; omega, fun bad hb => ?_⟩
  have hbad := badF_bad (j := j) bad hb
  have hz' : deedOk (j :: js').length z = false := hz
  (try simp only [sumDD, eqS, reprD, wV, wC, wNil, wCons, wTup, wLst, wOp, wUn, wCall, wT, wNot, wAnd, wOr, wB, wAndV, wOrV, wNotV, wIf, wIsi, wChain, wNo, wPart, wSl, wSet, wSetO, wTg, wPnil, wPcons, wPar, wNext, wSeq, wRet, wRetO, wRetN, wIfS, wBrk, wCnt, wDrop, wFrz, wApp, wExt, wSetIx, wAugIx, wAug, wRnil, wRcons, wFn, wRaise, wWord, wRetH, wSetIxH, wCount, wIndex, wIsE, wListRg1, wListRg2, wYes, wIs, wIz, wIl, wIt, wIr1, wIr2, wSlS, wPop, wAppPop, R.wk, R.st, R.ar, R.bl, R.no, R.sq, R.slot, setsR, startR, List.map_cons, List.map_nil, List.cons_append, List.nil_append, List.length_cons, List.length_nil, List.replicate, List.getElem?_cons_zero, List.getElem?_cons_succ, Option.some.injEq, exists_eq_left', exists_eq_left, R.d.injEq, R.own.injEq, R.fr.injEq, List.set_cons_zero, List.set_cons_succ, addD, subD, mulDD, fdivD, modD, ltD, leD, gtD, geD, eqD, neD, isND, isnotND, inDD, notInDD, ixD, negD, lenD, absD, intD, min2D, max2D, listD, tupleD, slD, Nat.reduceAdd, Nat.reduceSub, Nat.add_zero, Nat.zero_add, true_and, and_true, ite_true, ite_false, if_true, if_false, Bool.false_eq_true, reduceIte, Option.some_inj, Bool.true_eq_false, tgW, tgWs, wipe3, List.set_nil, w_law_are_refused_3])
  refine behind_noJugs hnone hk ⟨_, wd1, ?_⟩
  (try simp only [sumDD, eqS, reprD, wV, wC, wNil, wCons, wTup, wLst, wOp, wUn, wCall, wT, wNot, wAnd, wOr, wB, wAndV, wOrV, wNotV, wIf, wIsi, wChain, wNo, wPart, wSl, wSet, wSetO, wTg, wPnil, wPcons, wPar, wNext, wSeq, wRet, wRetO, wRetN, wIfS, wBrk, wCnt, wDrop, wFrz, wApp, wExt, wSetIx, wAugIx, wAug, wRnil, wRcons, wFn, wRaise, wWord, wRetH, wSetIxH, wCount, wIndex, wIsE, wListRg1, wListRg2, wYes, wIs, wIz, wIl, wIt, wIr1, wIr2, wSlS, wPop, wAppPop, R.wk, R.st, R.ar, R.bl, R.no, R.sq, R.slot, setsR, startR, List.map_cons, List.map_nil, List.cons_append, List.nil_append, List.length_cons, List.length_nil, List.replicate, List.getElem?_cons_zero, List.getElem?_cons_succ, Option.some.injEq, exists_eq_left', exists_eq_left, R.d.injEq, R.own.injEq, R.fr.injEq, List.set_cons_zero, List.set_cons_succ, addD, subD, mulDD, fdivD, modD, ltD, leD, gtD, geD, eqD, neD, isND, isnotND, inDD, notInDD, ixD, negD, lenD, absD, intD, min2D, max2D, listD, tupleD, slD, Nat.reduceAdd, Nat.reduceSub, Nat.add_zero, Nat.zero_add, true_and, and_true, ite_true, ite_false, if_true, if_false, Bool.false_eq_true, reduceIte, Option.some_inj, Bool.true_eq_false, tgW, tgWs, wipe3, List.set_nil, w_law_are_refused_4])
  refine behind_noFill hj hbad hk ⟨_, wd2, ?_⟩
  (try simp only [sumDD, eqS, reprD, wV, wC, wNil, wCons, wTup, wLst, wOp, wUn, wCall, wT, wNot, wAnd, wOr, wB, wAndV, wOrV, wNotV, wIf, wIsi, wChain, wNo, wPart, wSl, wSet, wSetO, wTg, wPnil, wPcons, wPar, wNext, wSeq, wRet, wRetO, wRetN, wIfS, wBrk, wCnt, wDrop, wFrz, wApp, wExt, wSetIx, wAugIx, wAug, wRnil, wRcons, wFn, wRaise, wWord, wRetH, wSetIxH, wCount, wIndex, wIsE, wListRg1, wListRg2, wYes, wIs, wIz, wIl, wIt, wIr1, wIr2, wSlS, wPop, wAppPop, R.wk, R.st, R.ar, R.bl, R.no, R.sq, R.slot, setsR, startR, List.map_cons, List.map_nil, List.cons_append, List.nil_append, List.length_cons, List.length_nil, List.replicate, List.getElem?_cons_zero, List.getElem?_cons_succ, Option.some.injEq, exists_eq_left', exists_eq_left, R.d.injEq, R.own.injEq, R.fr.injEq, List.set_cons_zero, List.set_cons_succ, addD, subD, mulDD, fdivD, modD, ltD, leD, gtD, geD, eqD, neD, isND, isnotND, inDD, notInDD, ixD, negD, lenD, absD, intD, min2D, max2D, listD, tupleD, slD, Nat.reduceAdd, Nat.reduceSub, Nat.add_zero, Nat.zero_add, true_and, and_true, ite_true, ite_false, if_true, if_false, Bool.false_eq_true, reduceIte, Option.some_inj, Bool.true_eq_false, tgW, tgWs, wipe3, List.set_nil, w_law_are_refused_5])
  refine ⟨by rw [sizeLine_eq]; omega, ?_⟩
  refine behind_noDeed (fs := 0 :: zeros js'.length) hj (zeros_good hj) hz' hk ⟨_, wd3, ?_⟩
  (try simp only [sumDD, eqS, reprD, wV, wC, wNil, wCons, wTup, wLst, wOp, wUn, wCall, wT, wNot, wAnd, wOr, wB, wAndV, wOrV, wNotV, wIf, wIsi, wChain, wNo, wPart, wSl, wSet, wSetO, wTg, wPnil, wPcons, wPar, wNext, wSeq, wRet, wRetO, wRetN, wIfS, wBrk, wCnt, wDrop, wFrz, wApp, wExt, wSetIx, wAugIx, wAug, wRnil, wRcons, wFn, wRaise, wWord, wRetH, wSetIxH, wCount, wIndex, wIsE, wListRg1, wListRg2, wYes, wIs, wIz, wIl, wIt, wIr1, wIr2, wSlS, wPop, wAppPop, R.wk, R.st, R.ar, R.bl, R.no, R.sq, R.slot, setsR, startR, List.map_cons, List.map_nil, List.cons_append, List.nil_append, List.length_cons, List.length_nil, List.replicate, List.getElem?_cons_zero, List.getElem?_cons_succ, Option.some.injEq, exists_eq_left', exists_eq_left, R.d.injEq, R.own.injEq, R.fr.injEq, List.set_cons_zero, List.set_cons_succ, addD, subD, mulDD, fdivD, modD, ltD, leD, gtD, geD, eqD, neD, isND, isnotND, inDD, notInDD, ixD, negD, lenD, absD, intD, min2D, max2D, listD, tupleD, slD, Nat.reduceAdd, Nat.reduceSub, Nat.add_zero, Nat.zero_add, true_and, and_true, ite_true, ite_false, if_true, if_false, Bool.false_eq_true, reduceIte, Option.some_inj, Bool.true_eq_false, tgW, tgWs, wipe3, List.set_nil, w_law_are_refused_6])
  refine ⟨by rw [sizeLine_eq]; omega, ?_⟩
  refine behind_good (d := .empty 0) hj (self_good hj) (by simp [Deed.ok]) ?_
  (try simp only [sumDD, eqS, reprD, wV, wC, wNil, wCons, wTup, wLst, wOp, wUn, wCall, wT, wNot, wAnd, wOr, wB, wAndV, wOrV, wNotV, wIf, wIsi, wChain, wNo, wPart, wSl, wSet, wSetO, wTg, wPnil, wPcons, wPar, wNext, wSeq, wRet, wRetO, wRetN, wIfS, wBrk, wCnt, wDrop, wFrz, wApp, wExt, wSetIx, wAugIx, wAug, wRnil, wRcons, wFn, wRaise, wWord, wRetH, wSetIxH, wCount, wIndex, wIsE, wListRg1, wListRg2, wYes, wIs, wIz, wIl, wIt, wIr1, wIr2, wSlS, wPop, wAppPop, R.wk, R.st, R.ar, R.bl, R.no, R.sq, R.slot, setsR, startR, List.map_cons, List.map_nil, List.cons_append, List.nil_append, List.length_cons, List.length_nil, List.replicate, List.getElem?_cons_zero, List.getElem?_cons_succ, Option.some.injEq, exists_eq_left', exists_eq_left, R.d.injEq, R.own.injEq, R.fr.injEq, List.set_cons_zero, List.set_cons_succ, addD, subD, mulDD, fdivD, modD, ltD, leD, gtD, geD, eqD, neD, isND, isnotND, inDD, notInDD, ixD, negD, lenD, absD, intD, min2D, max2D, listD, tupleD, slD, Nat.reduceAdd, Nat.reduceSub, Nat.add_zero, Nat.zero_add, true_and, and_true, ite_true, ite_false, if_true, if_false, Bool.false_eq_true, reduceIte, Option.some_inj, Bool.true_eq_false, tgW, tgWs, wipe3, List.set_nil, w_law_are_refused_7])
  refine ⟨by rw [sizeLine_eq]; omega, ?_⟩
  refine ⟨⟨by decide, by decide, by decide⟩, badDs z, rfl, by show (0 : Nat) < 7; omega, by show (7 : Nat) < _; omega, fun ds hds => ?_⟩
  obtain ⟨hh, hd⟩ := badDs_bad hz' hk ds hds
  (try simp only [sumDD, eqS, reprD, wV, wC, wNil, wCons, wTup, wLst, wOp, wUn, wCall, wT, wNot, wAnd, wOr, wB, wAndV, wOrV, wNotV, wIf, wIsi, wChain, wNo, wPart, wSl, wSet, wSetO, wTg, wPnil, wPcons, wPar, wNext, wSeq, wRet, wRetO, wRetN, wIfS, wBrk, wCnt, wDrop, wFrz, wApp, wExt, wSetIx, wAugIx, wAug, wRnil, wRcons, wFn, wRaise, wWord, wRetH, wSetIxH, wCount, wIndex, wIsE, wListRg1, wListRg2, wYes, wIs, wIz, wIl, wIt, wIr1, wIr2, wSlS, wPop, wAppPop, R.wk, R.st, R.ar, R.bl, R.no, R.sq, R.slot, setsR, startR, List.map_cons, List.map_nil, List.cons_append, List.nil_append, List.length_cons, List.length_nil, List.replicate, List.getElem?_cons_zero, List.getElem?_cons_succ, Option.some.injEq, exists_eq_left', exists_eq_left, R.d.injEq, R.own.injEq, R.fr.injEq, List.set_cons_zero, List.set_cons_succ, addD, subD, mulDD, fdivD, modD, ltD, leD, gtD, geD, eqD, neD, isND, isnotND, inDD, notInDD, ixD, negD, lenD, absD, intD, min2D, max2D, listD, tupleD, slD, Nat.reduceAdd, Nat.reduceSub, Nat.add_zero, Nat.zero_add, true_and, and_true, ite_true, ite_false, if_true, if_false, Bool.false_eq_true, reduceIte, Option.some_inj, Bool.true_eq_false, tgW, tgWs, wipe3, List.set_nil, w_law_are_refused_8])
  refine run_noJugs hnone hh ⟨_, wd1, ?_⟩
  (try simp only [sumDD, eqS, reprD, wV, wC, wNil, wCons, wTup, wLst, wOp, wUn, wCall, wT, wNot, wAnd, wOr, wB, wAndV, wOrV, wNotV, wIf, wIsi, wChain, wNo, wPart, wSl, wSet, wSetO, wTg, wPnil, wPcons, wPar, wNext, wSeq, wRet, wRetO, wRetN, wIfS, wBrk, wCnt, wDrop, wFrz, wApp, wExt, wSetIx, wAugIx, wAug, wRnil, wRcons, wFn, wRaise, wWord, wRetH, wSetIxH, wCount, wIndex, wIsE, wListRg1, wListRg2, wYes, wIs, wIz, wIl, wIt, wIr1, wIr2, wSlS, wPop, wAppPop, R.wk, R.st, R.ar, R.bl, R.no, R.sq, R.slot, setsR, startR, List.map_cons, List.map_nil, List.cons_append, List.nil_append, List.length_cons, List.length_nil, List.replicate, List.getElem?_cons_zero, List.getElem?_cons_succ, Option.some.injEq, exists_eq_left', exists_eq_left, R.d.injEq, R.own.injEq, R.fr.injEq, List.set_cons_zero, List.set_cons_succ, addD, subD, mulDD, fdivD, modD, ltD, leD, gtD, geD, eqD, neD, isND, isnotND, inDD, notInDD, ixD, negD, lenD, absD, intD, min2D, max2D, listD, tupleD, slD, Nat.reduceAdd, Nat.reduceSub, Nat.add_zero, Nat.zero_add, true_and, and_true, ite_true, ite_false, if_true, if_false, Bool.false_eq_true, reduceIte, Option.some_inj, Bool.true_eq_false, tgW, tgWs, wipe3, List.set_nil, w_law_are_refused_9])
  refine ⟨by rw [sizeLine_eq]; omega, ?_⟩
  refine run_noDeeds hj hh hd ⟨_, wd4, ?_⟩
  (try simp only [sumDD, eqS, reprD, wV, wC, wNil, wCons, wTup, wLst, wOp, wUn, wCall, wT, wNot, wAnd, wOr, wB, wAndV, wOrV, wNotV, wIf, wIsi, wChain, wNo, wPart, wSl, wSet, wSetO, wTg, wPnil, wPcons, wPar, wNext, wSeq, wRet, wRetO, wRetN, wIfS, wBrk, wCnt, wDrop, wFrz, wApp, wExt, wSetIx, wAugIx, wAug, wRnil, wRcons, wFn, wRaise, wWord, wRetH, wSetIxH, wCount, wIndex, wIsE, wListRg1, wListRg2, wYes, wIs, wIz, wIl, wIt, wIr1, wIr2, wSlS, wPop, wAppPop, R.wk, R.st, R.ar, R.bl, R.no, R.sq, R.slot, setsR, startR, List.map_cons, List.map_nil, List.cons_append, List.nil_append, List.length_cons, List.length_nil, List.replicate, List.getElem?_cons_zero, List.getElem?_cons_succ, Option.some.injEq, exists_eq_left', exists_eq_left, R.d.injEq, R.own.injEq, R.fr.injEq, List.set_cons_zero, List.set_cons_succ, addD, subD, mulDD, fdivD, modD, ltD, leD, gtD, geD, eqD, neD, isND, isnotND, inDD, notInDD, ixD, negD, lenD, absD, intD, min2D, max2D, listD, tupleD, slD, Nat.reduceAdd, Nat.reduceSub, Nat.add_zero, Nat.zero_add, true_and, and_true, ite_true, ite_false, if_true, if_false, Bool.false_eq_true, reduceIte, Option.some_inj, Bool.true_eq_false, tgW, tgWs, wipe3, List.set_nil, w_law_are_refused_10])
  refine ⟨by rw [sizeLine_eq]; omega, ⟨by decide, by decide, by decide⟩, ?_⟩
  have e200 : (List.replicate (Int.toNat 200) [PyData.tuple [.str "fill", .int 0]]).flatten = (List.replicate 200 (Deed.fill 0)).map Deed.toD := rep_flat 200 (.fill 0)
  rw [e200]
  refine run_good hj (fun d hd => ?_) (by rw [List.length_replicate]; omega) ?_
  · rw [List.eq_of_mem_replicate hd]
    simp [Deed.ok]
  · (try simp only [sumDD, eqS, reprD, wV, wC, wNil, wCons, wTup, wLst, wOp, wUn, wCall, wT, wNot, wAnd, wOr, wB, wAndV, wOrV, wNotV, wIf, wIsi, wChain, wNo, wPart, wSl, wSet, wSetO, wTg, wPnil, wPcons, wPar, wNext, wSeq, wRet, wRetO, wRetN, wIfS, wBrk, wCnt, wDrop, wFrz, wApp, wExt, wSetIx, wAugIx, wAug, wRnil, wRcons, wFn, wRaise, wWord, wRetH, wSetIxH, wCount, wIndex, wIsE, wListRg1, wListRg2, wYes, wIs, wIz, wIl, wIt, wIr1, wIr2, wSlS, wPop, wAppPop, R.wk, R.st, R.ar, R.bl, R.no, R.sq, R.slot, setsR, startR, List.map_cons, List.map_nil, List.cons_append, List.nil_append, List.length_cons, List.length_nil, List.replicate, List.getElem?_cons_zero, List.getElem?_cons_succ, Option.some.injEq, exists_eq_left', exists_eq_left, R.d.injEq, R.own.injEq, R.fr.injEq, List.set_cons_zero, List.set_cons_succ, addD, subD, mulDD, fdivD, modD, ltD, leD, gtD, geD, eqD, neD, isND, isnotND, inDD, notInDD, ixD, negD, lenD, absD, intD, min2D, max2D, listD, tupleD, slD, Nat.reduceAdd, Nat.reduceSub, Nat.add_zero, Nat.zero_add, true_and, and_true, ite_true, ite_false, if_true, if_false, Bool.false_eq_true, reduceIte, Option.some_inj, Bool.true_eq_false, tgW, tgWs, wipe3, List.set_nil, w_law_are_refused_11])
    refine ⟨by rw [sizeLine_eq]; omega, by decide +kernel, by decide +kernel, ?_⟩
    exact (show Q (.d (.bool true)) from h)
theorem ok_law_are_refused (D : Txt K mg base T) : Cal false P w K mg base T 8 "_law_are_refused" C_law_are_refused :=
  cal_of (wb := w_law_are_refused) D.d_law_are_refused sc_law_are_refused bi_law_are_refused l_law_are_refused (fun f cdv A outer s H E hp hr hgd => ess_cons (es_parT (is := [2, 3, 4]) (ep_cons (ev_fnC (ok_law_no_jugs D) hr (by decide) (fun h => by cases h) rfl pass_cx (er_cons (ev_var (pv 0)) (er_nil))) (ep_cons (ev_fnC (ok_law_no_deed D) hr (by decide) (fun h => by cases h) rfl pass_cx (er_cons (ev_var (pv 0)) (er_cons (ev_callB cr_len rfl D.n_len bb_len (el_cons selW (ev_var (pv 1)) (el_nil))) (er_nil)))) (ep_cons (ev_op op_mulDD (ev_tup (el_cons selS (ev_int) (el_nil))) (ev_callB cr_len rfl D.n_len bb_len (el_cons selW (ev_var (pv 1)) (el_nil)))) (ep_nil)))) (pg_tup rfl (pgs_cons (pg_name (i := 2) sc_law_are_refused.nd rfl (by first | exact Or.inl rfl | exact Or.inr rfl)) (pgs_cons (pg_name (i := 3) sc_law_are_refused.nd rfl (by first | exact Or.inl rfl | exact Or.inr rfl)) (pgs_cons (pg_name (i := 4) sc_law_are_refused.nd rfl (by first | exact Or.inl rfl | exact Or.inr rfl)) (pgs_nil)))))) (ess_cons (es_set (i := 5) sc_law_are_refused.nd rfl (by first | exact Or.inl rfl | exact Or.inr rfl) (ev_lst (el_cons selS (ev_non) (el_cons selS (ev_int) (el_cons selS (ev_callTy cr_list rfl D.n_list bb_list (el_cons selW (ev_var (pv 4)) (el_nil))) (el_cons selS (ev_op op_addD (ev_var (pv 4)) (ev_tup (el_cons selS (ev_int) (el_nil)))) (el_cons selS (ev_sl (ev_var (pv 4)) (eo_part (ev_int)) eo_no) (el_cons selS (ev_op op_addD (ev_tup (el_cons selS (ev_op op_addD (ev_ix ix_D (ev_var (pv 1)) (ev_int) (fun _ _ => rfl)) (ev_int)) (el_nil))) (ev_sl (ev_var (pv 4)) (eo_part (ev_int)) eo_no)) (el_cons selS (ev_op op_addD (ev_tup (el_cons selS (ev_un un_negD (ev_int)) (el_nil))) (ev_sl (ev_var (pv 4)) (eo_part (ev_int)) eo_no)) (el_nil)))))))))) (ess_cons (es_set (i := 6) sc_law_are_refused.nd rfl (by first | exact Or.inl rfl | exact Or.inr rfl) (ev_fnC (ok_law_any D) hr (by decide) (fun h => by cases h) rfl pass_cx (er_cons (ev_var (pv 0)) (er_cons (ev_op op_addD (ev_var (pv 5)) (ev_lst (el_cons selS (ev_op op_addD (ev_tup (el_cons selS (ev_bl) (el_nil))) (ev_sl (ev_var (pv 4)) (eo_part (ev_int)) eo_no)) (el_cons selS (ev_dct0) (el_cons selS (ev_op op_addD (ev_tup (el_cons selS (ev_non) (el_nil))) (ev_sl (ev_var (pv 4)) (eo_part (ev_int)) eo_no)) (el_nil)))))) (er_nil))))) (ess_cons (es_setO (i := 7) sc_law_are_refused.nd rfl (by first | exact Or.inl rfl | exact Or.inr rfl) (ev_lst (el_cons selS (ev_wordD D.d_law_word_of bi_law_word_of sc_law_word_of rfl va_law_word_of (gv_law_word_of D hr) rfl hp hr (lamS_by (sc := defScope s_law_are_refused) (by decide +kernel)) rfl (fun _ _ _ _ _ => rfl) (fun A outer s H E' f c' hr => ev_fnC (ok_behind D) hr (by decide) (fun h => by cases h) rfl passLam (er_cons (ev_var (pv 2)) (er_cons (ev_var (pv 6)) (er_cons (ev_var (pv 3)) (er_nil)))))) (el_nil)))) (ess_cons (es_app (pv 7) (ev_wordD D.d_law_word_of bi_law_word_of sc_law_word_of rfl va_law_word_of (gv_law_word_of D hr) rfl hp hr (lamS_by (sc := defScope s_law_are_refused) (by decide +kernel)) rfl (fun _ _ _ _ _ => rfl) (fun A outer s H E' f c' hr => ev_fnC (ok_behind D) hr (by decide) (fun h => by cases h) rfl passLam (er_cons (ev_var (pv 1)) (er_cons (ev_var (pv 6)) (er_cons (ev_var (pv 3)) (er_nil))))))) (ess_cons (es_app (pv 7) (ev_wordD D.d_law_word_of bi_law_word_of sc_law_word_of rfl va_law_word_of (gv_law_word_of D hr) rfl hp hr (lamS_by (sc := defScope s_law_are_refused) (by decide +kernel)) rfl (fun _ _ _ _ _ => rfl) (fun A outer s H E' f c' hr => ev_fnC (ok_behind D) hr (by decide) (fun h => by cases h) rfl passLam (er_cons (ev_var (pv 1)) (er_cons (ev_var (pv 4)) (er_cons (ev_var (pv 3)) (er_nil))))))) (ess_cons (es_app (pv 7) (ev_wordD D.d_law_word_of bi_law_word_of sc_law_word_of rfl va_law_word_of (gv_law_word_of D hr) rfl hp hr (lamS_by (sc := defScope s_law_are_refused) (by decide +kernel)) rfl (fun _ _ _ _ _ => rfl) (fun A outer s H E' f c' hr => ev_fnC (ok_behind D) hr (by decide) (fun h => by cases h) rfl passLam (er_cons (ev_var (pv 1)) (er_cons (ev_var (pv 1)) (er_cons (ev_tup (el_cons selS (ev_str) (el_cons selS (ev_int) (el_nil)))) (er_nil))))))) (ess_cons (es_set (i := 8) sc_law_are_refused.nd rfl (by first | exact Or.inl rfl | exact Or.inr rfl) (ev_fnC (ok_law_any D) hr (by decide) (fun h => by cases h) rfl pass_cx (er_cons (ev_var (pv 0)) (er_cons (ev_lst (el_cons selS (ev_non) (el_cons selS (ev_int) (el_cons selS (ev_lst (el_cons selS (ev_tup (el_cons selS (ev_str) (el_cons selS (ev_int) (el_nil)))) (el_nil))) (el_cons selS (ev_tup (el_cons selS (ev_var (pv 3)) (el_nil))) (el_cons selS (ev_tup (el_cons selS (ev_tup (el_cons selS (ev_str) (el_cons selS (ev_int) (el_nil)))) (el_cons selS (ev_var (pv 3)) (el_nil)))) (el_cons selS (ev_op op_mulDD (ev_tup (el_cons selS (ev_tup (el_cons selS (ev_str) (el_cons selS (ev_int) (el_nil)))) (el_nil))) (ev_int)) (el_cons selS (ev_dct0) (el_nil))))))))) (er_nil))))) (ess_cons (es_app (pv 7) (ev_wordD D.d_law_word_of bi_law_word_of sc_law_word_of rfl va_law_word_of (gv_law_word_of D hr) rfl hp hr (lamS_by (sc := defScope s_law_are_refused) (by decide +kernel)) rfl (fun _ _ _ _ _ => rfl) (fun A outer s H E' f c' hr => ev_fnC (ok_run_of D) hr (by decide) (fun h => by cases h) rfl passLam (er_cons (ev_var (pv 2)) (er_cons (ev_var (pv 8)) (er_nil)))))) (ess_cons (es_app (pv 7) (ev_wordD D.d_law_word_of bi_law_word_of sc_law_word_of rfl va_law_word_of (gv_law_word_of D hr) rfl hp hr (lamS_by (sc := defScope s_law_are_refused) (by decide +kernel)) rfl (fun _ _ _ _ _ => rfl) (fun A outer s H E' f c' hr => ev_fnC (ok_run_of D) hr (by decide) (fun h => by cases h) rfl passLam (er_cons (ev_var (pv 1)) (er_cons (ev_var (pv 8)) (er_nil)))))) (ess_cons (es_app (pv 7) (ev_wordD D.d_law_word_of bi_law_word_of sc_law_word_of rfl va_law_word_of (gv_law_word_of D hr) rfl hp hr (lamS_by (sc := defScope s_law_are_refused) (by decide +kernel)) rfl (fun _ _ _ _ _ => rfl) (fun A outer s H E' f c' hr => ev_fnC (ok_run_of D) hr (by decide) (fun h => by cases h) rfl passLam (er_cons (ev_var (pv 1)) (er_cons (ev_op op_mulDD (ev_tup (el_cons selS (ev_tup (el_cons selS (ev_str) (el_cons selS (ev_int) (el_nil)))) (el_nil))) (ev_int)) (er_nil)))))) (ess_one (es_ret (ev_cmp (op_eqT (u64 hr)) (ev_var (pv 7)) (ev_lst (el_cons selS (ev_str) (el_cons selS (ev_str) (el_cons selS (ev_str) (el_cons selS (ev_str) (el_cons selS (ev_str) (el_cons selS (ev_str) (el_cons selS (ev_str) (el_nil))))))))) (nomark _))))))))))))))) p_law_are_refused
/-! ### law -/
abbrev N_law : List Str := ["script", "hand", "turn", "jugs"]
theorem sc_law : FnScope N_law ["script"] (defScope s_law) := ⟨rfl, rfl, rfl, by decide +kernel, rfl, by decide +kernel, by decide +kernel⟩
theorem bi_law : BindsBy "law" s_law ["script"] := fun _ _ _ _ _ _ us hl => match us, hl with | [_], _ => rfl
def b1_law_1 : WS := wIfS (wOr (wNot (wT (wFn C_law_is_right (wRcons (wV 1) (wRcons (wV 3) (wRnil)))))) (wNot (wT (wFn C_law_are_refused (wRcons (wV 1) (wRcons (wV 3) (wRnil))))))) (wRet (wC (.bool false))) (wNext)
def b1_law : WS := wSeq (wSet 3 (wFn C_law_jugs (wRcons (wV 1) (wRnil)))) (b1_law_1)
def w_law_2 : WS := wSeq (wIfS (wT (wOp neD (wFn C_run_of (wRcons (wTup (wCons R.st (wC (.int 3)) (wCons R.st (wC (.int 5)) (wNil)))) (wRcons (wTup (wCons R.st (wTup (wCons R.st (wC (.str "fill")) (wCons R.st (wC (.int 1)) (wNil)))) (wCons R.st (wTup (wCons R.st (wC (.str "pour")) (wCons R.st (wC (.int 1)) (wCons R.st (wC (.int 0)) (wNil))))) (wCons R.st (wTup (wCons R.st (wC (.str "empty")) (wCons R.st (wC (.int 0)) (wNil)))) (wNil))))) (wRnil)))) (wTup (wCons R.st (wTup (wCons R.st (wC (.int 0)) (wCons R.st (wC (.int 0)) (wNil)))) (wCons R.st (wTup (wCons R.st (wC (.int 0)) (wCons R.st (wC (.int 5)) (wNil)))) (wCons R.st (wTup (wCons R.st (wC (.int 3)) (wCons R.st (wC (.int 2)) (wNil)))) (wCons R.st (wTup (wCons R.st (wC (.int 0)) (wCons R.st (wC (.int 2)) (wNil)))) (wNil)))))))) (wRet (wC (.bool false))) (wNext)) (wSeq (wFor (wIr1 (wC (.int 5))) (.one 2) (b1_law)) (wRet (wC (.bool true))))
def w_law_1 : WS := wSeq (wIfS (wOr (wT (wOp neD (wFn C_behind (wRcons (wTup (wCons R.st (wC (.int 3)) (wCons R.st (wC (.int 5)) (wNil)))) (wRcons (wTup (wCons R.st (wC (.int 3)) (wCons R.st (wC (.int 4)) (wNil)))) (wRcons (wTup (wCons R.st (wC (.str "pour")) (wCons R.st (wC (.int 0)) (wCons R.st (wC (.int 1)) (wNil))))) (wRnil))))) (wTup (wCons R.st (wC (.int 2)) (wCons R.st (wC (.int 5)) (wNil)))))) (wT (wOp neD (wFn C_behind (wRcons (wTup (wCons R.st (wC (.int 3)) (wCons R.st (wC (.int 5)) (wNil)))) (wRcons (wTup (wCons R.st (wC (.int 0)) (wCons R.st (wC (.int 5)) (wNil)))) (wRcons (wTup (wCons R.st (wC (.str "pour")) (wCons R.st (wC (.int 1)) (wCons R.st (wC (.int 0)) (wNil))))) (wRnil))))) (wTup (wCons R.st (wC (.int 3)) (wCons R.st (wC (.int 2)) (wNil))))))) (wRet (wC (.bool false))) (wNext)) (w_law_2)
def w_law : WS := wSeq (wSet 1 (wFn C_law_hand (wRcons (wV 0) (wRnil)))) (w_law_1)
-- split
def C_law : Ct := fun rs Q _ => ∃ ns : List Int, rs = [.scr ns] ∧ ns.length ≤ 63 ∧ Q (.d (.bool true))
theorem l_law : ∀ rs Q X, C_law rs Q X → rs.length = 1 := by
  rintro rs Q X ⟨_, rfl, _⟩
  rfl
theorem j35 : GoodJ [3, 5] := ⟨by decide, by decide, fun j hj => by
  simp only [List.mem_cons, List.not_mem_nil, or_false] at hj
  omega⟩
theorem gf2 {a b : Int} (h : 0 ≤ a ∧ a ≤ 3 ∧ 0 ≤ b ∧ b ≤ 5) : GoodF [3, 5] [a, b] := ⟨rfl, fun i hi => by
  match i, hi with
  | 0, _ => exact ⟨h.1, h.2.1⟩
  | 1, _ => exact ⟨h.2.2.1, h.2.2.2⟩⟩
theorem p_law_3 {Q : R → Prop} {X : Exc → Prop} {a b c : Option R} (h : Q (.d (.bool true))) : wFor (wIr1 (wC (.int 5))) (.one 2) b1_law { nx := fun _ => Q (.d (.bool true)), rt := Q } [a, some (.hand L_hand), b, c] X := by
  (try simp only [sumDD, eqS, reprD, wV, wC, wNil, wCons, wTup, wLst, wOp, wUn, wCall, wT, wNot, wAnd, wOr, wB, wAndV, wOrV, wNotV, wIf, wIsi, wChain, wNo, wPart, wSl, wSet, wSetO, wTg, wPnil, wPcons, wPar, wNext, wSeq, wRet, wRetO, wRetN, wIfS, wBrk, wCnt, wDrop, wFrz, wApp, wExt, wSetIx, wAugIx, wAug, wRnil, wRcons, wFn, wRaise, wWord, wRetH, wSetIxH, wCount, wIndex, wIsE, wListRg1, wListRg2, wYes, wIs, wIz, wIl, wIt, wIr1, wIr2, wSlS, wPop, wAppPop, R.wk, R.st, R.ar, R.bl, R.no, R.sq, R.slot, setsR, startR, List.map_cons, List.map_nil, List.cons_append, List.nil_append, List.length_cons, List.length_nil, List.replicate, List.getElem?_cons_zero, List.getElem?_cons_succ, Option.some.injEq, exists_eq_left', exists_eq_left, R.d.injEq, R.own.injEq, R.fr.injEq, List.set_cons_zero, List.set_cons_succ, addD, subD, mulDD, fdivD, modD, ltD, leD, gtD, geD, eqD, neD, isND, isnotND, inDD, notInDD, ixD, negD, lenD, absD, intD, min2D, max2D, listD, tupleD, slD, Nat.reduceAdd, Nat.reduceSub, Nat.add_zero, Nat.zero_add, true_and, and_true, ite_true, ite_false, if_true, if_false, Bool.false_eq_true, reduceIte, Option.some_inj, Bool.true_eq_false, tgW, tgWs, wipe3, List.set_nil, wFor])
  refine ⟨⟨by decide, by decide⟩, ?_⟩
  refine for_rule (fun _ ρ => ∃ o2 o3, ρ = [a, some (.hand L_hand), o2, o3]) _ _ ⟨b, c, rfl⟩ (fun _ _ => h) ?_
  rintro x xs ρ ⟨o2, o3, rfl⟩ N hN
  (try simp only [sumDD, eqS, reprD, wV, wC, wNil, wCons, wTup, wLst, wOp, wUn, wCall, wT, wNot, wAnd, wOr, wB, wAndV, wOrV, wNotV, wIf, wIsi, wChain, wNo, wPart, wSl, wSet, wSetO, wTg, wPnil, wPcons, wPar, wNext, wSeq, wRet, wRetO, wRetN, wIfS, wBrk, wCnt, wDrop, wFrz, wApp, wExt, wSetIx, wAugIx, wAug, wRnil, wRcons, wFn, wRaise, wWord, wRetH, wSetIxH, wCount, wIndex, wIsE, wListRg1, wListRg2, wYes, wIs, wIz, wIl, wIt, wIr1, wIr2, wSlS, wPop, wAppPop, R.wk, R.st, R.ar, R.bl, R.no, R.sq, R.slot, setsR, startR, List.map_cons, List.map_nil, List.cons_append, List.nil_append, List.length_cons, List.length_nil, List.replicate, List.getElem?_cons_zero, List.getElem?_cons_succ, Option.some.injEq, exists_eq_left', exists_eq_left, R.d.injEq, R.own.injEq, R.fr.injEq, List.set_cons_zero, List.set_cons_succ, addD, subD, mulDD, fdivD, modD, ltD, leD, gtD, geD, eqD, neD, isND, isnotND, inDD, notInDD, ixD, negD, lenD, absD, intD, min2D, max2D, listD, tupleD, slD, Nat.reduceAdd, Nat.reduceSub, Nat.add_zero, Nat.zero_add, true_and, and_true, ite_true, ite_false, if_true, if_false, Bool.false_eq_true, reduceIte, Option.some_inj, Bool.true_eq_false, tgW, tgWs, wipe3, List.set_nil, b1_law, C_law_jugs])
  intro js hj
  (try simp only [sumDD, eqS, reprD, wV, wC, wNil, wCons, wTup, wLst, wOp, wUn, wCall, wT, wNot, wAnd, wOr, wB, wAndV, wOrV, wNotV, wIf, wIsi, wChain, wNo, wPart, wSl, wSet, wSetO, wTg, wPnil, wPcons, wPar, wNext, wSeq, wRet, wRetO, wRetN, wIfS, wBrk, wCnt, wDrop, wFrz, wApp, wExt, wSetIx, wAugIx, wAug, wRnil, wRcons, wFn, wRaise, wWord, wRetH, wSetIxH, wCount, wIndex, wIsE, wListRg1, wListRg2, wYes, wIs, wIz, wIl, wIt, wIr1, wIr2, wSlS, wPop, wAppPop, R.wk, R.st, R.ar, R.bl, R.no, R.sq, R.slot, setsR, startR, List.map_cons, List.map_nil, List.cons_append, List.nil_append, List.length_cons, List.length_nil, List.replicate, List.getElem?_cons_zero, List.getElem?_cons_succ, Option.some.injEq, exists_eq_left', exists_eq_left, R.d.injEq, R.own.injEq, R.fr.injEq, List.set_cons_zero, List.set_cons_succ, addD, subD, mulDD, fdivD, modD, ltD, leD, gtD, geD, eqD, neD, isND, isnotND, inDD, notInDD, ixD, negD, lenD, absD, intD, min2D, max2D, listD, tupleD, slD, Nat.reduceAdd, Nat.reduceSub, Nat.add_zero, Nat.zero_add, true_and, and_true, ite_true, ite_false, if_true, if_false, Bool.false_eq_true, reduceIte, Option.some_inj, Bool.true_eq_false, tgW, tgWs, wipe3, List.set_nil, b1_law_1, C_law_is_right, C_law_are_refused])
  refine ⟨js, rfl, hj, ?_⟩
  (try simp only [sumDD, eqS, reprD, wV, wC, wNil, wCons, wTup, wLst, wOp, wUn, wCall, wT, wNot, wAnd, wOr, wB, wAndV, wOrV, wNotV, wIf, wIsi, wChain, wNo, wPart, wSl, wSet, wSetO, wTg, wPnil, wPcons, wPar, wNext, wSeq, wRet, wRetO, wRetN, wIfS, wBrk, wCnt, wDrop, wFrz, wApp, wExt, wSetIx, wAugIx, wAug, wRnil, wRcons, wFn, wRaise, wWord, wRetH, wSetIxH, wCount, wIndex, wIsE, wListRg1, wListRg2, wYes, wIs, wIz, wIl, wIt, wIr1, wIr2, wSlS, wPop, wAppPop, R.wk, R.st, R.ar, R.bl, R.no, R.sq, R.slot, setsR, startR, List.map_cons, List.map_nil, List.cons_append, List.nil_append, List.length_cons, List.length_nil, List.replicate, List.getElem?_cons_zero, List.getElem?_cons_succ, Option.some.injEq, exists_eq_left', exists_eq_left, R.d.injEq, R.own.injEq, R.fr.injEq, List.set_cons_zero, List.set_cons_succ, addD, subD, mulDD, fdivD, modD, ltD, leD, gtD, geD, eqD, neD, isND, isnotND, inDD, notInDD, ixD, negD, lenD, absD, intD, min2D, max2D, listD, tupleD, slD, Nat.reduceAdd, Nat.reduceSub, Nat.add_zero, Nat.zero_add, true_and, and_true, ite_true, ite_false, if_true, if_false, Bool.false_eq_true, reduceIte, Option.some_inj, Bool.true_eq_false, tgW, tgWs, wipe3, List.set_nil, Bool.not_true])
  refine ⟨js, rfl, hj, ?_⟩
  (try simp only [sumDD, eqS, reprD, wV, wC, wNil, wCons, wTup, wLst, wOp, wUn, wCall, wT, wNot, wAnd, wOr, wB, wAndV, wOrV, wNotV, wIf, wIsi, wChain, wNo, wPart, wSl, wSet, wSetO, wTg, wPnil, wPcons, wPar, wNext, wSeq, wRet, wRetO, wRetN, wIfS, wBrk, wCnt, wDrop, wFrz, wApp, wExt, wSetIx, wAugIx, wAug, wRnil, wRcons, wFn, wRaise, wWord, wRetH, wSetIxH, wCount, wIndex, wIsE, wListRg1, wListRg2, wYes, wIs, wIz, wIl, wIt, wIr1, wIr2, wSlS, wPop, wAppPop, R.wk, R.st, R.ar, R.bl, R.no, R.sq, R.slot, setsR, startR, List.map_cons, List.map_nil, List.cons_append, List.nil_append, List.length_cons, List.length_nil, List.replicate, List.getElem?_cons_zero, List.getElem?_cons_succ, Option.some.injEq, exists_eq_left', exists_eq_left, R.d.injEq, R.own.injEq, R.fr.injEq, List.set_cons_zero, List.set_cons_succ, addD, subD, mulDD, fdivD, modD, ltD, leD, gtD, geD, eqD, neD, isND, isnotND, inDD, notInDD, ixD, negD, lenD, absD, intD, min2D, max2D, listD, tupleD, slD, Nat.reduceAdd, Nat.reduceSub, Nat.add_zero, Nat.zero_add, true_and, and_true, ite_true, ite_false, if_true, if_false, Bool.false_eq_true, reduceIte, Option.some_inj, Bool.true_eq_false, tgW, tgWs, wipe3, List.set_nil, Bool.not_true])
  exact hN _ ⟨_, _, rfl⟩
theorem p_law_2 {Q : R → Prop} {X : Exc → Prop} {a b c : Option R} (h : Q (.d (.bool true))) : w_law_2 (dEnd Q) [a, some (.hand L_hand), b, c] X := by
  (try simp only [sumDD, eqS, reprD, wV, wC, wNil, wCons, wTup, wLst, wOp, wUn, wCall, wT, wNot, wAnd, wOr, wB, wAndV, wOrV, wNotV, wIf, wIsi, wChain, wNo, wPart, wSl, wSet, wSetO, wTg, wPnil, wPcons, wPar, wNext, wSeq, wRet, wRetO, wRetN, wIfS, wBrk, wCnt, wDrop, wFrz, wApp, wExt, wSetIx, wAugIx, wAug, wRnil, wRcons, wFn, wRaise, wWord, wRetH, wSetIxH, wCount, wIndex, wIsE, wListRg1, wListRg2, wYes, wIs, wIz, wIl, wIt, wIr1, wIr2, wSlS, wPop, wAppPop, R.wk, R.st, R.ar, R.bl, R.no, R.sq, R.slot, setsR, startR, List.map_cons, List.map_nil, List.cons_append, List.nil_append, List.length_cons, List.length_nil, List.replicate, List.getElem?_cons_zero, List.getElem?_cons_succ, Option.some.injEq, exists_eq_left', exists_eq_left, R.d.injEq, R.own.injEq, R.fr.injEq, List.set_cons_zero, List.set_cons_succ, addD, subD, mulDD, fdivD, modD, ltD, leD, gtD, geD, eqD, neD, isND, isnotND, inDD, notInDD, ixD, negD, lenD, absD, intD, min2D, max2D, listD, tupleD, slD, Nat.reduceAdd, Nat.reduceSub, Nat.add_zero, Nat.zero_add, true_and, and_true, ite_true, ite_false, if_true, if_false, Bool.false_eq_true, reduceIte, Option.some_inj, Bool.true_eq_false, tgW, tgWs, wipe3, List.set_nil, w_law_2])
  refine run_good (js := [3, 5]) (ds := [.fill 1, .pour 1 0, .empty 0]) j35 (fun d hd => ?_) (by decide) ?_
  · simp only [List.mem_cons, List.not_mem_nil, or_false] at hd
    rcases hd with rfl | rfl | rfl <;> decide
  · (try simp only [sumDD, eqS, reprD, wV, wC, wNil, wCons, wTup, wLst, wOp, wUn, wCall, wT, wNot, wAnd, wOr, wB, wAndV, wOrV, wNotV, wIf, wIsi, wChain, wNo, wPart, wSl, wSet, wSetO, wTg, wPnil, wPcons, wPar, wNext, wSeq, wRet, wRetO, wRetN, wIfS, wBrk, wCnt, wDrop, wFrz, wApp, wExt, wSetIx, wAugIx, wAug, wRnil, wRcons, wFn, wRaise, wWord, wRetH, wSetIxH, wCount, wIndex, wIsE, wListRg1, wListRg2, wYes, wIs, wIz, wIl, wIt, wIr1, wIr2, wSlS, wPop, wAppPop, R.wk, R.st, R.ar, R.bl, R.no, R.sq, R.slot, setsR, startR, List.map_cons, List.map_nil, List.cons_append, List.nil_append, List.length_cons, List.length_nil, List.replicate, List.getElem?_cons_zero, List.getElem?_cons_succ, Option.some.injEq, exists_eq_left', exists_eq_left, R.d.injEq, R.own.injEq, R.fr.injEq, List.set_cons_zero, List.set_cons_succ, addD, subD, mulDD, fdivD, modD, ltD, leD, gtD, geD, eqD, neD, isND, isnotND, inDD, notInDD, ixD, negD, lenD, absD, intD, min2D, max2D, listD, tupleD, slD, Nat.reduceAdd, Nat.reduceSub, Nat.add_zero, Nat.zero_add, true_and, and_true, ite_true, ite_false, if_true, if_false, Bool.false_eq_true, reduceIte, Option.some_inj, Bool.true_eq_false, tgW, tgWs, wipe3, List.set_nil])
    refine ⟨(lay_rows _).sh, by decide +kernel, ?_⟩
    rw [if_neg (by decide +kernel)]
    exact p_law_3 h
theorem p_law_1 {Q : R → Prop} {X : Exc → Prop} {a b c : Option R} (h : Q (.d (.bool true))) : w_law_1 (dEnd Q) [a, some (.hand L_hand), b, c] X := by
  (try simp only [sumDD, eqS, reprD, wV, wC, wNil, wCons, wTup, wLst, wOp, wUn, wCall, wT, wNot, wAnd, wOr, wB, wAndV, wOrV, wNotV, wIf, wIsi, wChain, wNo, wPart, wSl, wSet, wSetO, wTg, wPnil, wPcons, wPar, wNext, wSeq, wRet, wRetO, wRetN, wIfS, wBrk, wCnt, wDrop, wFrz, wApp, wExt, wSetIx, wAugIx, wAug, wRnil, wRcons, wFn, wRaise, wWord, wRetH, wSetIxH, wCount, wIndex, wIsE, wListRg1, wListRg2, wYes, wIs, wIz, wIl, wIt, wIr1, wIr2, wSlS, wPop, wAppPop, R.wk, R.st, R.ar, R.bl, R.no, R.sq, R.slot, setsR, startR, List.map_cons, List.map_nil, List.cons_append, List.nil_append, List.length_cons, List.length_nil, List.replicate, List.getElem?_cons_zero, List.getElem?_cons_succ, Option.some.injEq, exists_eq_left', exists_eq_left, R.d.injEq, R.own.injEq, R.fr.injEq, List.set_cons_zero, List.set_cons_succ, addD, subD, mulDD, fdivD, modD, ltD, leD, gtD, geD, eqD, neD, isND, isnotND, inDD, notInDD, ixD, negD, lenD, absD, intD, min2D, max2D, listD, tupleD, slD, Nat.reduceAdd, Nat.reduceSub, Nat.add_zero, Nat.zero_add, true_and, and_true, ite_true, ite_false, if_true, if_false, Bool.false_eq_true, reduceIte, Option.some_inj, Bool.true_eq_false, tgW, tgWs, wipe3, List.set_nil, w_law_1])
  refine behind_good (js := [3, 5]) (fs := [3, 4]) (d := .pour 0 1) j35 (gf2 ⟨by decide, by decide, by decide, by decide⟩) (by decide) ?_
  (try simp only [sumDD, eqS, reprD, wV, wC, wNil, wCons, wTup, wLst, wOp, wUn, wCall, wT, wNot, wAnd, wOr, wB, wAndV, wOrV, wNotV, wIf, wIsi, wChain, wNo, wPart, wSl, wSet, wSetO, wTg, wPnil, wPcons, wPar, wNext, wSeq, wRet, wRetO, wRetN, wIfS, wBrk, wCnt, wDrop, wFrz, wApp, wExt, wSetIx, wAugIx, wAug, wRnil, wRcons, wFn, wRaise, wWord, wRetH, wSetIxH, wCount, wIndex, wIsE, wListRg1, wListRg2, wYes, wIs, wIz, wIl, wIt, wIr1, wIr2, wSlS, wPop, wAppPop, R.wk, R.st, R.ar, R.bl, R.no, R.sq, R.slot, setsR, startR, List.map_cons, List.map_nil, List.cons_append, List.nil_append, List.length_cons, List.length_nil, List.replicate, List.getElem?_cons_zero, List.getElem?_cons_succ, Option.some.injEq, exists_eq_left', exists_eq_left, R.d.injEq, R.own.injEq, R.fr.injEq, List.set_cons_zero, List.set_cons_succ, addD, subD, mulDD, fdivD, modD, ltD, leD, gtD, geD, eqD, neD, isND, isnotND, inDD, notInDD, ixD, negD, lenD, absD, intD, min2D, max2D, listD, tupleD, slD, Nat.reduceAdd, Nat.reduceSub, Nat.add_zero, Nat.zero_add, true_and, and_true, ite_true, ite_false, if_true, if_false, Bool.false_eq_true, reduceIte, Option.some_inj, Bool.true_eq_false, tgW, tgWs, wipe3, List.set_nil])
  refine ⟨(lay_ints _).sh, by decide +kernel, ?_⟩
  rw [if_neg (by decide +kernel)]
  refine behind_good (js := [3, 5]) (fs := [0, 5]) (d := .pour 1 0) j35 (gf2 ⟨by decide, by decide, by decide, by decide⟩) (by decide) ?_
  (try simp only [sumDD, eqS, reprD, wV, wC, wNil, wCons, wTup, wLst, wOp, wUn, wCall, wT, wNot, wAnd, wOr, wB, wAndV, wOrV, wNotV, wIf, wIsi, wChain, wNo, wPart, wSl, wSet, wSetO, wTg, wPnil, wPcons, wPar, wNext, wSeq, wRet, wRetO, wRetN, wIfS, wBrk, wCnt, wDrop, wFrz, wApp, wExt, wSetIx, wAugIx, wAug, wRnil, wRcons, wFn, wRaise, wWord, wRetH, wSetIxH, wCount, wIndex, wIsE, wListRg1, wListRg2, wYes, wIs, wIz, wIl, wIt, wIr1, wIr2, wSlS, wPop, wAppPop, R.wk, R.st, R.ar, R.bl, R.no, R.sq, R.slot, setsR, startR, List.map_cons, List.map_nil, List.cons_append, List.nil_append, List.length_cons, List.length_nil, List.replicate, List.getElem?_cons_zero, List.getElem?_cons_succ, Option.some.injEq, exists_eq_left', exists_eq_left, R.d.injEq, R.own.injEq, R.fr.injEq, List.set_cons_zero, List.set_cons_succ, addD, subD, mulDD, fdivD, modD, ltD, leD, gtD, geD, eqD, neD, isND, isnotND, inDD, notInDD, ixD, negD, lenD, absD, intD, min2D, max2D, listD, tupleD, slD, Nat.reduceAdd, Nat.reduceSub, Nat.add_zero, Nat.zero_add, true_and, and_true, ite_true, ite_false, if_true, if_false, Bool.false_eq_true, reduceIte, Option.some_inj, Bool.true_eq_false, tgW, tgWs, wipe3, List.set_nil])
  refine ⟨(lay_ints _).sh, by decide +kernel, ?_⟩
  rw [if_neg (by decide +kernel)]
  exact p_law_2 h
theorem p_law : ∀ rs Q X, C_law rs Q X → w_law ⟨fun _ => Q (.d .none), Q, fun _ => False, fun _ => False⟩ (startR N_law rs) X := by
  rintro rs Q X ⟨ns, rfl, hn, h⟩
  (try simp only [sumDD, eqS, reprD, wV, wC, wNil, wCons, wTup, wLst, wOp, wUn, wCall, wT, wNot, wAnd, wOr, wB, wAndV, wOrV, wNotV, wIf, wIsi, wChain, wNo, wPart, wSl, wSet, wSetO, wTg, wPnil, wPcons, wPar, wNext, wSeq, wRet, wRetO, wRetN, wIfS, wBrk, wCnt, wDrop, wFrz, wApp, wExt, wSetIx, wAugIx, wAug, wRnil, wRcons, wFn, wRaise, wWord, wRetH, wSetIxH, wCount, wIndex, wIsE, wListRg1, wListRg2, wYes, wIs, wIz, wIl, wIt, wIr1, wIr2, wSlS, wPop, wAppPop, R.wk, R.st, R.ar, R.bl, R.no, R.sq, R.slot, setsR, startR, List.map_cons, List.map_nil, List.cons_append, List.nil_append, List.length_cons, List.length_nil, List.replicate, List.getElem?_cons_zero, List.getElem?_cons_succ, Option.some.injEq, exists_eq_left', exists_eq_left, R.d.injEq, R.own.injEq, R.fr.injEq, List.set_cons_zero, List.set_cons_succ, addD, subD, mulDD, fdivD, modD, ltD, leD, gtD, geD, eqD, neD, isND, isnotND, inDD, notInDD, ixD, negD, lenD, absD, intD, min2D, max2D, listD, tupleD, slD, Nat.reduceAdd, Nat.reduceSub, Nat.add_zero, Nat.zero_add, true_and, and_true, ite_true, ite_false, if_true, if_false, Bool.false_eq_true, reduceIte, Option.some_inj, Bool.true_eq_false, tgW, tgWs, wipe3, List.set_nil, w_law, C_law_hand, C_hand])
  refine ⟨ns, rfl, hn, ?_⟩
  exact p_law_1 h
theorem fx_law (D : Txt K mg base T) : ∃ (f : Addr) (oc : Value) (od : Option Addr) (kV doc pm : Value) (an : Option Addr) (cdv ct : Value) (osl : Array (Option Value)), mg "law" = some (.ref f) ∧ K.lookup f = some ⟨oc, od, .func (PySem.W.fnOf "law" "law" (defArgs s_law) (defBody s_law) (defScope s_law) .none kV doc pm an cdv ct), osl⟩ ∧ PySem.W.keepIn K (.ref f) = true ∧
    FnG true P w K mg base 9 f (PySem.W.fnOf "law" "law" (defArgs s_law) (defBody s_law) (defScope s_law) .none kV doc pm an cdv ct) ["script"] (spC ⟨K, mg, T⟩ C_law) :=
  fnx_of (wb := w_law) D.d_law sc_law bi_law l_law (fun f cdv A outer s H E hp hr hgd => ess_cons (es_set (i := 1) sc_law.nd rfl (by first | exact Or.inl rfl | exact Or.inr rfl) (ev_fnC (ok_law_hand D) hr (by decide) (fun h => by cases h) rfl pass_cx (er_cons (ev_var (pv 0)) (er_nil)))) (ess_cons (es_if (PW.pt (ew_or (et_cmp (op_neT (u64 hr)) (ev_fnC (ok_behind D) hr (by decide) (fun h => by cases h) rfl pass_cx (er_cons (ev_tup (el_cons selS (ev_int) (el_cons selS (ev_int) (el_nil)))) (er_cons (ev_tup (el_cons selS (ev_int) (el_cons selS (ev_int) (el_nil)))) (er_cons (ev_tup (el_cons selS (ev_str) (el_cons selS (ev_int) (el_cons selS (ev_int) (el_nil))))) (er_nil))))) (ev_tup (el_cons selS (ev_int) (el_cons selS (ev_int) (el_nil)))) (nomark _)) (ew_or1 (et_cmp (op_neT (u64 hr)) (ev_fnC (ok_behind D) hr (by decide) (fun h => by cases h) rfl pass_cx (er_cons (ev_tup (el_cons selS (ev_int) (el_cons selS (ev_int) (el_nil)))) (er_cons (ev_tup (el_cons selS (ev_int) (el_cons selS (ev_int) (el_nil)))) (er_cons (ev_tup (el_cons selS (ev_str) (el_cons selS (ev_int) (el_cons selS (ev_int) (el_nil))))) (er_nil))))) (ev_tup (el_cons selS (ev_int) (el_cons selS (ev_int) (el_nil)))) (nomark _))))) (ess_one (es_ret (ev_bl))) (ess_nil)) (ess_cons (es_if (et_cmp (op_neT (u64 hr)) (ev_fnC (ok_run_of D) hr (by decide) (fun h => by cases h) rfl pass_cx (er_cons (ev_tup (el_cons selS (ev_int) (el_cons selS (ev_int) (el_nil)))) (er_cons (ev_tup (el_cons selS (ev_tup (el_cons selS (ev_str) (el_cons selS (ev_int) (el_nil)))) (el_cons selS (ev_tup (el_cons selS (ev_str) (el_cons selS (ev_int) (el_cons selS (ev_int) (el_nil))))) (el_cons selS (ev_tup (el_cons selS (ev_str) (el_cons selS (ev_int) (el_nil)))) (el_nil))))) (er_nil)))) (ev_tup (el_cons selS (ev_tup (el_cons selS (ev_int) (el_cons selS (ev_int) (el_nil)))) (el_cons selS (ev_tup (el_cons selS (ev_int) (el_cons selS (ev_int) (el_nil)))) (el_cons selS (ev_tup (el_cons selS (ev_int) (el_cons selS (ev_int) (el_nil)))) (el_cons selS (ev_tup (el_cons selS (ev_int) (el_cons selS (ev_int) (el_nil)))) (el_nil)))))) (nomark _)) (ess_one (es_ret (ev_bl))) (ess_nil)) (ess_cons (es_for (g := .one 2) own_cx rfl (ei_rg1 rfl D.n_range (ev_int)) (pg_name (i := 2) sc_law.nd rfl (by first | exact Or.inl rfl | exact Or.inr rfl)) (ess_cons (es_set (i := 3) sc_law.nd rfl (by first | exact Or.inl rfl | exact Or.inr rfl) (ev_fnC (ok_law_jugs D) hr (by decide) (fun h => by cases h) rfl pass_cx (er_cons (ev_var (pv 1)) (er_nil)))) (ess_one (es_if (PW.pt (ew_or (et_not (et_val (ev_fnC (ok_law_is_right D) hr (by decide) hgd rfl pass_cx (er_cons (ev_var (pv 1)) (er_cons (ev_var (pv 3)) (er_nil)))))) (ew_or1 (et_not (et_val (ev_fnC (ok_law_are_refused D) hr (by decide) (fun h => by cases h) rfl pass_cx (er_cons (ev_var (pv 1)) (er_cons (ev_var (pv 3)) (er_nil))))))))) (ess_one (es_ret (ev_bl))) (ess_nil))))) (ess_one (es_ret (ev_bl))))))) p_law
/-! ## The head -/
abbrev dd (x : Str) (i : Nat) : He.DefD := ⟨(x, none), x, x, defArgs (top i), defBody (top i), defScope (top i), [], []⟩
def fa0 : List He.Fa := [.glo "is_integer", .glo "is_within", .glo "is_sized", .glo "check_jugs", .glo "is_filling", .glo "is_deed", .glo "raw_behind", .glo "behind", .glo "are_deeds", .glo "raw_run", .glo "run_of", .glo "_law_hand", .glo "_law_draw", .glo "_law_any", .glo "_law_same", .glo "_law_jugs", .glo "_law_all_deeds", .glo "_law_done", .glo "_law_no_jugs", .glo "_law_no_deed", .glo "_law_word_of", .glo "_law_is_right", .glo "_law_are_refused", .glo "law", .glo "KitchenError", .glo "NoDeed", .glo "NoDeeds", .glo "NoFilling", .glo "NoJugs", .glo "TooMany"]
def fa1 : List He.Fa := [.free "ValueError", .free "abs", .free "all", .free "bool", .free "int", .free "isinstance", .free "len", .free "list", .free "min", .free "range", .free "repr", .free "str", .free "sum", .free "tuple", .free "zip", .int "MOST_JUGS" 4, .int "MOST_SIZE" 12, .int "MOST_DEEDS" 200, .str "FILL" "fill", .str "EMPTY" "empty", .str "POUR" "pour", .exc "NoDeed", .exc "NoDeeds", .exc "NoFilling", .exc "NoJugs"]
def fa : List He.Fa := fa0 ++ fa1
def fn0 : List He.DefD := [dd "is_integer" 1, dd "is_within" 2, dd "is_sized" 3, dd "check_jugs" 18, dd "is_filling" 19, dd "is_deed" 20, dd "raw_behind" 21, dd "behind" 22, dd "are_deeds" 23, dd "raw_run" 24, dd "run_of" 25, dd "_law_hand" 27, dd "_law_draw" 28, dd "_law_any" 29, dd "_law_same" 30, dd "_law_jugs" 31, dd "_law_all_deeds" 32, dd "_law_done" 33, dd "_law_no_jugs" 34, dd "_law_no_deed" 35, dd "_law_word_of" 36, dd "_law_is_right" 37, dd "_law_are_refused" 38, dd "law" 39]
def fn : List He.DefD := fn0
def tf : List He.Defn := [("_law_are_refused", none)]
def ex (K : PySem.W.Frag) : Bool := (errL.all fun x => errB K "KitchenError" (clsL.map fun n => (n, isa x n)) x) && tf.all fun p => tf.all fun q => !decide ((He.cT K p).2 = (He.cT K q).2) || decide (p.1 = q.1)
abbrev R : PySem.W.OpenRow := PySem.W.OpenLaw.row PySem.Challenge.rw_kitchenhall_k19_whole_deeds_of_jugs
abbrev hk : PySem.W.Hook := He.hookX 4 fa fn [] tf ex
def ob (s : PySem.W.SharedT) : He.AlX := He.obsX 4 fa fn [] tf ex (HandSHeadRun.getT s)
theorem ob_eq (s : PySem.W.SharedT) : ob s = hk.obs s.abs := He.obsX_eq (HandSHeadRun.getT_eq s)
def loose0 : List Str := ["is_integer", "is_within", "is_sized", "check_jugs", "is_filling", "is_deed", "raw_behind", "behind", "are_deeds", "raw_run", "run_of", "_law_hand", "_law_draw", "_law_any", "_law_same", "_law_jugs", "_law_all_deeds", "_law_done", "_law_no_jugs", "_law_no_deed", "_law_word_of", "_law_is_right", "_law_are_refused", "KitchenError", "NoDeed", "NoDeeds", "NoFilling", "NoJugs", "TooMany", "MOST_JUGS"]
def loose1 : List Str := ["MOST_SIZE", "MOST_DEEDS", "FILL", "EMPTY", "POUR"]
abbrev loose : List Str := loose0 ++ loose1
theorem run (w : World) : HandSHeadRun.RunEq R (PySem.W.view R.prog [39]) hk ob 3000 loose w := by
  intro os
  kernel_rfl
theorem errL_fa : ∀ x ∈ errL, He.Fa.glo x ∈ fa := by unfold errL fa; simp [fa0, fa1]
theorem clsL_fa : ∀ x ∈ clsL, He.Fa.glo x ∈ fa := by unfold clsL fa; simp [fa0, fa1]
theorem tf_none : ∀ p ∈ tf, p = (p.1, none) := by unfold tf; simp
theorem tf_same {K : PySem.W.Frag} {h : Heap} {w : World} (c : He.SaysX fa fn [] tf ex w h K) : ∀ p ∈ tf, ∀ q ∈ tf, (He.cT K p).2 = (He.cT K q).2 → p.1 = q.1 := fun p hp q hq e => by
  have e0 := c.more
  unfold ex at e0
  have z := List.all_eq_true.mp (List.all_eq_true.mp (Bool.and_eq_true_iff.mp e0).2 p hp) q hq
  rw [decide_eq_true e, Bool.not_true, Bool.false_or] at z
  exact of_decide_eq_true z
theorem lam_pc {K : PySem.W.Frag} {h : Heap} {mg : Str → Option Value} {w : World} (c : He.SaysX fa fn [] tf ex w h K) {base : Heap} (TB : ∀ q ∈ tf.map (He.cT K), TabB base mg q.1 q.2) (p : He.Defn) (hp : p ∈ tf) {fd : FuncData} :
    ∀ cdv oc od osl, K.lookup (He.fAd K (p.1, none)) = some ⟨oc, od, .func fd, osl⟩ → fd.code = cdv → PySem.W.codeIn K cdv p.1 = true → PcL mg base (tf.map fun p => ((He.cT K p).2, p.1 ++ ".<locals>." ++ "<lambda>")) (p.1 ++ ".<locals>." ++ "<lambda>") cdv := by
  intro cdv oc od osl hl hc hi
  obtain ⟨cc, e⟩ := He.codeIn_ref hi
  have hp2 : p = (p.1, none) := tf_none p hp
  have e2 : He.codeOf K p = cc := by
    rw [hp2]
    exact He.codeOf_eq hl (hc.trans e)
  refine ⟨cc, (He.cT K p).2, e, ?_, List.mem_map.mpr ⟨p, hp, rfl⟩, fun t ht et => ?_⟩
  · have z := TB (He.cT K p) (List.mem_map.mpr ⟨p, hp, rfl⟩)
    have e3 : (He.cT K p).1 = cc := e2
    rw [e3] at z
    exact z
  · obtain ⟨p2, hp2, rfl⟩ := List.mem_map.mp ht
    have e4 := tf_same c p2 hp2 p hp et
    show p2.1 ++ _ ++ _ = _
    rw [e4]
theorem txt {K : PySem.W.Frag} {h : Heap} {mg : Str → Option Value} {w : World} (X : K.In h) (G : h.Ns mainGlobals mg) (c : He.SaysX fa fn [] tf ex w h K) {base : Heap} (TB : ∀ q ∈ tf.map (He.cT K), TabB base mg q.1 q.2) : Txt K mg base (tf.map fun p => ((He.cT K p).2, p.1 ++ ".<locals>." ++ "<lambda>")) where
  d_is_integer := (c.t.d.def_ 0 (d := dd "is_integer" 1) rfl).elim fun fd FD => def_of X G FD (c.t.d.fact 0 (f := .glo "is_integer") rfl) (fun _ _ _ _ _ _ _ => trivial)
  d_is_within := (c.t.d.def_ 1 (d := dd "is_within" 2) rfl).elim fun fd FD => def_of X G FD (c.t.d.fact 1 (f := .glo "is_within") rfl) (fun _ _ _ _ _ _ _ => trivial)
  d_is_sized := (c.t.d.def_ 2 (d := dd "is_sized" 3) rfl).elim fun fd FD => def_of X G FD (c.t.d.fact 2 (f := .glo "is_sized") rfl) (fun _ _ _ _ _ _ _ => trivial)
  d_check_jugs := (c.t.d.def_ 3 (d := dd "check_jugs" 18) rfl).elim fun fd FD => def_of X G FD (c.t.d.fact 3 (f := .glo "check_jugs") rfl) (fun _ _ _ _ _ _ _ => trivial)
  d_is_filling := (c.t.d.def_ 4 (d := dd "is_filling" 19) rfl).elim fun fd FD => def_of X G FD (c.t.d.fact 4 (f := .glo "is_filling") rfl) (fun _ _ _ _ _ _ _ => trivial)
  d_is_deed := (c.t.d.def_ 5 (d := dd "is_deed" 20) rfl).elim fun fd FD => def_of X G FD (c.t.d.fact 5 (f := .glo "is_deed") rfl) (fun _ _ _ _ _ _ _ => trivial)
  d_raw_behind := (c.t.d.def_ 6 (d := dd "raw_behind" 21) rfl).elim fun fd FD => def_of X G FD (c.t.d.fact 6 (f := .glo "raw_behind") rfl) (fun _ _ _ _ _ _ _ => trivial)
  d_behind := (c.t.d.def_ 7 (d := dd "behind" 22) rfl).elim fun fd FD => def_of X G FD (c.t.d.fact 7 (f := .glo "behind") rfl) (fun _ _ _ _ _ _ _ => trivial)
  d_are_deeds := (c.t.d.def_ 8 (d := dd "are_deeds" 23) rfl).elim fun fd FD => def_of X G FD (c.t.d.fact 8 (f := .glo "are_deeds") rfl) (fun _ _ _ _ _ _ _ => trivial)
  d_raw_run := (c.t.d.def_ 9 (d := dd "raw_run" 24) rfl).elim fun fd FD => def_of X G FD (c.t.d.fact 9 (f := .glo "raw_run") rfl) (fun _ _ _ _ _ _ _ => trivial)
  d_run_of := (c.t.d.def_ 10 (d := dd "run_of" 25) rfl).elim fun fd FD => def_of X G FD (c.t.d.fact 10 (f := .glo "run_of") rfl) (fun _ _ _ _ _ _ _ => trivial)
  d_law_hand := (c.t.d.def_ 11 (d := dd "_law_hand" 27) rfl).elim fun fd FD => def_of X G FD (c.t.d.fact 11 (f := .glo "_law_hand") rfl) (fun _ _ _ _ _ _ _ => trivial)
  d_law_draw := (c.t.d.def_ 12 (d := dd "_law_draw" 28) rfl).elim fun fd FD => def_of X G FD (c.t.d.fact 12 (f := .glo "_law_draw") rfl) (fun _ _ _ _ _ _ _ => trivial)
  d_law_any := (c.t.d.def_ 13 (d := dd "_law_any" 29) rfl).elim fun fd FD => def_of X G FD (c.t.d.fact 13 (f := .glo "_law_any") rfl) (fun _ _ _ _ _ _ _ => trivial)
  d_law_same := (c.t.d.def_ 14 (d := dd "_law_same" 30) rfl).elim fun fd FD => def_of X G FD (c.t.d.fact 14 (f := .glo "_law_same") rfl) (fun _ _ _ _ _ _ _ => trivial)
  d_law_jugs := (c.t.d.def_ 15 (d := dd "_law_jugs" 31) rfl).elim fun fd FD => def_of X G FD (c.t.d.fact 15 (f := .glo "_law_jugs") rfl) (fun _ _ _ _ _ _ _ => trivial)
  d_law_all_deeds := (c.t.d.def_ 16 (d := dd "_law_all_deeds" 32) rfl).elim fun fd FD => def_of X G FD (c.t.d.fact 16 (f := .glo "_law_all_deeds") rfl) (fun _ _ _ _ _ _ _ => trivial)
  d_law_done := (c.t.d.def_ 17 (d := dd "_law_done" 33) rfl).elim fun fd FD => def_of X G FD (c.t.d.fact 17 (f := .glo "_law_done") rfl) (fun _ _ _ _ _ _ _ => trivial)
  d_law_no_jugs := (c.t.d.def_ 18 (d := dd "_law_no_jugs" 34) rfl).elim fun fd FD => def_of X G FD (c.t.d.fact 18 (f := .glo "_law_no_jugs") rfl) (fun _ _ _ _ _ _ _ => trivial)
  d_law_no_deed := (c.t.d.def_ 19 (d := dd "_law_no_deed" 35) rfl).elim fun fd FD => def_of X G FD (c.t.d.fact 19 (f := .glo "_law_no_deed") rfl) (fun _ _ _ _ _ _ _ => trivial)
  d_law_word_of := (c.t.d.def_ 20 (d := dd "_law_word_of" 36) rfl).elim fun fd FD => def_of X G FD (c.t.d.fact 20 (f := .glo "_law_word_of") rfl) (fun _ _ _ _ _ _ _ => trivial)
  d_law_is_right := (c.t.d.def_ 21 (d := dd "_law_is_right" 37) rfl).elim fun fd FD => def_of X G FD (c.t.d.fact 21 (f := .glo "_law_is_right") rfl) (fun _ _ _ _ _ _ _ => trivial)
  d_law_are_refused := (c.t.d.def_ 22 (d := dd "_law_are_refused" 38) rfl).elim fun fd FD => def_of X G FD (c.t.d.fact 22 (f := .glo "_law_are_refused") rfl) (lam_pc c TB ("_law_are_refused", none) (by decide))
  d_law := (c.t.d.def_ 23 (d := dd "law" 39) rfl).elim fun fd FD => def_of X G FD (c.t.d.fact 23 (f := .glo "law") rfl) (fun _ _ _ _ _ _ _ => trivial)
  n_ValueError := He.free_ok X G (c.t.d.fact 30 (f := .free "ValueError") rfl)
  n_abs := He.free_ok X G (c.t.d.fact 31 (f := .free "abs") rfl)
  n_all := He.free_ok X G (c.t.d.fact 32 (f := .free "all") rfl)
  n_bool := He.free_ok X G (c.t.d.fact 33 (f := .free "bool") rfl)
  n_int := He.free_ok X G (c.t.d.fact 34 (f := .free "int") rfl)
  n_isinstance := He.free_ok X G (c.t.d.fact 35 (f := .free "isinstance") rfl)
  n_len := He.free_ok X G (c.t.d.fact 36 (f := .free "len") rfl)
  n_list := He.free_ok X G (c.t.d.fact 37 (f := .free "list") rfl)
  n_min := He.free_ok X G (c.t.d.fact 38 (f := .free "min") rfl)
  n_range := He.free_ok X G (c.t.d.fact 39 (f := .free "range") rfl)
  n_repr := He.free_ok X G (c.t.d.fact 40 (f := .free "repr") rfl)
  n_str := He.free_ok X G (c.t.d.fact 41 (f := .free "str") rfl)
  n_sum := He.free_ok X G (c.t.d.fact 42 (f := .free "sum") rfl)
  n_tuple := He.free_ok X G (c.t.d.fact 43 (f := .free "tuple") rfl)
  n_zip := He.free_ok X G (c.t.d.fact 44 (f := .free "zip") rfl)
  c_MOST_JUGS := He.int_ok X G (c.t.d.fact 45 (f := .int "MOST_JUGS" 4) rfl)
  c_MOST_SIZE := He.int_ok X G (c.t.d.fact 46 (f := .int "MOST_SIZE" 12) rfl)
  c_MOST_DEEDS := He.int_ok X G (c.t.d.fact 47 (f := .int "MOST_DEEDS" 200) rfl)
  c_FILL := He.str_ok X G (c.t.d.fact 48 (f := .str "FILL" "fill") rfl)
  c_EMPTY := He.str_ok X G (c.t.d.fact 49 (f := .str "EMPTY" "empty") rfl)
  c_POUR := He.str_ok X G (c.t.d.fact 50 (f := .str "POUR" "pour") rfl)
  x_NoDeed := exc_of X G (c.t.d.fact 25 (f := .glo "NoDeed") rfl) (c.t.d.fact 51 (f := .exc "NoDeed") rfl)
  x_NoDeeds := exc_of X G (c.t.d.fact 26 (f := .glo "NoDeeds") rfl) (c.t.d.fact 52 (f := .exc "NoDeeds") rfl)
  x_NoFilling := exc_of X G (c.t.d.fact 27 (f := .glo "NoFilling") rfl) (c.t.d.fact 53 (f := .exc "NoFilling") rfl)
  x_NoJugs := exc_of X G (c.t.d.fact 28 (f := .glo "NoJugs") rfl) (c.t.d.fact 54 (f := .exc "NoJugs") rfl)
  k_KitchenError := ⟨_, He.glo_ok X G (c.t.d.fact 24 (f := .glo "KitchenError") rfl)⟩
  k_NoDeed := ⟨_, He.glo_ok X G (c.t.d.fact 25 (f := .glo "NoDeed") rfl)⟩
  k_NoDeeds := ⟨_, He.glo_ok X G (c.t.d.fact 26 (f := .glo "NoDeeds") rfl)⟩
  k_NoFilling := ⟨_, He.glo_ok X G (c.t.d.fact 27 (f := .glo "NoFilling") rfl)⟩
  k_NoJugs := ⟨_, He.glo_ok X G (c.t.d.fact 28 (f := .glo "NoJugs") rfl)⟩
  k_TooMany := ⟨_, He.glo_ok X G (c.t.d.fact 29 (f := .glo "TooMany") rfl)⟩
  errs := fun x hx => err_of X G (c.t.d.facts (f := .glo x) (errL_fa x hx)) (c.t.d.fact 24 (f := .glo "KitchenError") rfl) (fun y hy => by
    obtain ⟨n, hn, rfl⟩ := List.mem_map.mp hy
    exact c.t.d.facts (f := .glo n) (clsL_fa n hn)) (by
    have e := c.more
    unfold ex at e
    exact List.all_eq_true.mp (Bool.and_eq_true_iff.mp e).1 x hx)
theorem law_g {K : PySem.W.Frag} {h : Heap} {mg : Str → Option Value} {w : World} {f : Addr} (X : K.In h) (G : h.Ns mainGlobals mg) (hfa : mg "law" = some (.ref f)) (c : He.SaysX fa fn [] tf ex w h K) : LawG PySem.Challenge.rw_kitchenhall_k19_whole_deeds_of_jugs w K 9 63 "script" mg f h := by
  have KX := X
  refine ⟨?_⟩
  have ft : ∀ p ∈ tf, PySem.W.CodeHd h (He.cT K p).1 (He.cT K p).2 := fun p hp => PySem.W.codeHd_of_K X (c.hd p hp)
  obtain ⟨fd, FD⟩ := c.t.d.def_ 23 (d := dd "law" 39) rfl
  have e := hfa.symm.trans (He.glo_ok X G (c.t.d.fact 23 (f := .glo "law") rfl))
  cases e
  obtain ⟨oc, od, dV, kV, doc, pm, an, cdv, ct, osl, ef, l, hc, hd, _⟩ := FD.ex
  have hdV : dV = .none := by
    rcases hd with ⟨_, e2⟩ | ⟨e2, _⟩
    · exact e2
    · exact absurd rfl e2
  subst hdV
  refine ⟨fd, tf.map (He.cT K), tf.map fun p => ((He.cT K p).2, p.1 ++ ".<locals>." ++ "<lambda>"), C_law, fun q hq => ?_, fun q hq => ?_, fun q hq => ?_, fun s u => ?_, fun t ht => ?_, fun ns hn => ⟨ns, rfl, hn, rfl⟩, fun base inK nsG TB => ?_⟩
  · obtain ⟨p, hp, rfl⟩ := List.mem_map.mp hq
    exact c.empty p hp
  · obtain ⟨p, hp, rfl⟩ := List.mem_map.mp hq
    exact c.out p hp
  · obtain ⟨p, hp, rfl⟩ := List.mem_map.mp hq
    exact ft p hp
  · subst ef
    exact .of_eq (bi_law kV doc pm an cdv ct [u] rfl)
  · obtain ⟨p, hp, rfl⟩ := List.mem_map.mp ht
    exact ⟨_, List.mem_map.mpr ⟨p, hp, rfl⟩, rfl⟩
  · obtain ⟨f2, oc2, od2, kV2, doc2, pm2, an2, cdv2, ct2, osl2, hm2, l2, _, F2⟩ := fx_law (P := (PySem.Challenge.rw_kitchenhall_k19_whole_deeds_of_jugs).prog) (w := w) (txt X G c TB)
    have e3 := (He.glo_ok X G (c.t.d.fact 23 (f := .glo "law") rfl)).symm.trans hm2
    cases e3
    have l3 := l.symm.trans l2
    cases l3
    exact FnG.weak F2
end T3.K19
open PySem PySem.W PySem.Calls PyProof.Rows
theorem PySem.Challenge.cw_kitchenhall_k19_whole_deeds_of_jugs_holds : PySem.Challenge.rw_kitchenhall_k19_whole_deeds_of_jugs.Holds := by
  w_on; o_law
  refine HandSHeadRun.head_any (r := OpenLaw.row PySem.Challenge.rw_kitchenhall_k19_whole_deeds_of_jugs) (q := view (OpenLaw.row PySem.Challenge.rw_kitchenhall_k19_whole_deeds_of_jugs).prog [39]) (H := T3.K19.hk) (ob := T3.K19.ob) (M := 3000) (loose := T3.K19.loose) (d := HandSHeadRun.topDef (OpenLaw.row PySem.Challenge.rw_kitchenhall_k19_whole_deeds_of_jugs).prog 39) (kwd := []) T3.K19.ob_eq
    (by kernel_rfl) (fun s => by kernel_rfl) T3.K19.run (by kernel_rfl) (by kernel_rfl) (by kernel_rfl) (by rfl) (by first | assumption | decide +kernel) (by decide +kernel) ⟨rfl, rfl, rfl, rfl, rfl, by decide +kernel⟩ ?hw ?hc
  case hw => w_witness2
  case hc =>
    refine T3.walk_G (l := PySem.Challenge.rw_kitchenhall_k19_whole_deeds_of_jugs) (n := 63) (k := 9) (x := "script") rfl (by decide) (by kernel_rfl) ⟨rfl, by decide, by decide⟩ ?F
    intro w mg fa h Y G hmg0
    obtain ⟨K, KX, c⟩ := Y
    have hmg : mg ("law" : PySem.Str) = some (.ref fa) := by
      have e : (HandSHeadRun.topDef (OpenLaw.row PySem.Challenge.rw_kitchenhall_k19_whole_deeds_of_jugs).prog 39).name = ("law" : PySem.Str) := by kernel_rfl
      rw [← e]
      exact hmg0
    exact ⟨K, KX, T3.K19.law_g KX G hmg c⟩
