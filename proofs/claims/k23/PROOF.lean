import PyProof.Rows.All
import Wide.All
import OpenK.AllK
import Wide.FinOn
import HandS.ForMost
import HandS.Exc
import HandS.WordsExc
import HandS.Lambda
import HandS.Deep
import HandS.Walk
import HandS.ExcOwn
import HandS.IsInst
import HandS.TupAny
import HandS.TupMul
import HandS.Conv
import HandS.Zip
import HandS.Wide
import HandS.EndTab
import HandS.HeadHook4
import HandS.Head2
import HandS.ExcIs
import HandS.TryMany
import KE.DataMinMax
import KE.GoesEnum
import PyProof.EnumMake
import HandS.SortInts
import KE.SortKeyHeap
import KE.OsSort
import HandS.Style
import HandS.Dict
import KE.SortData
import KE.KDictSum
import HandS.ExcValue
import HandS.DictComp
import KE.KDflt
import HandS.WordsDict
import PySem.Challenge.RW_kitchenhall_k23_whole_when_steps_begin_a
set_option linter.all false
set_option maxRecDepth 100000
set_option maxHeartbeats 2000000
set_option Elab.async false
/-! T1: values told as trees over the hand layer; what stands in a frame's slots; liftings of tree-level readings. -/
namespace T3
open L2 LamX PySem PyProof.Rows PySem.Spec

abbrev St := L2.St
structure Pm where
  K : PySem.W.Frag
  mg : Str → Option Value
  T : List (Addr × Str)
/-- an exception, by its class's name and its one field's value -/
structure Exc where
  name : Str
  arg : Option PyData
/-- what an expression gives, what a slot holds: a tree; a list of the frame's own that may be changed; a new list; the draws' hand -/
inductive R where
  | d (x : PyData)
  | own (xs : List PyData)
  | fr (xs : List PyData)
  | dk (kvs : List (Key × PyData))
  | fk (kvs : List (Key × PyData))
  | hand (L : Nat)
  | scr (ns : List Int)
  | adr (a : Addr)
abbrev Env3 := List (Option R)
abbrev Ad := Addr → Prop

/-! ### representation -/
def LstM (M : Ad) (H : Hp) (a : Addr) (xs : List V) : Prop := ¬ M a ∧ H a = some (.lst xs)
/-- the script -/
def ScrM (K : PySem.W.Frag) (M : Ad) (H : Hp) (a : Addr) (xs : List V) : Prop := (¬ M a ∧ ∃ o, H a = some (.frz o (.lst xs))) ∨ SqL K (fun _ => none) a xs
def TupM (K : PySem.W.Frag) (M : Ad) (H : Hp) (a : Addr) (xs : List V) : Prop := (¬ M a ∧ Rd H a (.tup xs)) ∨ SqT K (fun _ => none) a xs
theorem rd_none {a : Addr} {u : HO} (h : Rd (fun _ => none) a u) : False := by
  rcases h with h | ⟨o, h⟩ <;> cases h
theorem sqL_const {K : PySem.W.Frag} {H : Hp} {a : Addr} {xs : List V} (h : SqL K (fun _ => none) a xs) : SqL K H a xs := by
  rcases h with h | h
  · exact (rd_none h).elim
  · exact .inr h
theorem sqT_const {K : PySem.W.Frag} {H : Hp} {a : Addr} {xs : List V} (h : SqT K (fun _ => none) a xs) : SqT K H a xs := by
  rcases h with h | h
  · exact (rd_none h).elim
  · exact .inr h
section
variable {K : PySem.W.Frag} {M M' : Ad} {H H' H'' : Hp} {a : Addr} {xs : List V}
theorem LstM.sq (h : LstM M H a xs) : SqL K H a xs := .inl (.inl h.2)
theorem ScrM.sq (h : ScrM K M H a xs) : SqL K H a xs := h.elim (fun z => .inl (.inr z.2)) sqL_const
theorem TupM.sq (h : TupM K M H a xs) : SqT K H a xs := h.elim (fun z => .inl z.2) sqT_const
/-- what stands outside M stays, but for the tables -/
def Fm (M : Ad) (H H' : Hp) : Prop := ∀ b o, H b = some o → ¬ M b → (∀ ps, o ≠ .tbl ps) → H' b = some o
theorem Fm.of (e : ExtN H H') : Fm M H H' := fun b o q _ n => e b o q n
theorem Fm.refl : Fm M H H := fun _ _ q _ _ => q
theorem Fm.trans (e : Fm M H H') (e' : Fm M H' H'') : Fm M H H'' := fun b o q m n => e' b o (e b o q m n) m n
theorem Fm.rd {u : HO} (e : Fm M H H') (m : ¬ M a) (n : ∀ ps, u ≠ .tbl ps) (r : Rd H a u) : Rd H' a u := by
  rcases r with r | ⟨o, r⟩
  · exact .inl (e a u r m n)
  · exact .inr ⟨o, e a _ r m (fun ps q => by cases q)⟩
theorem LstM.fm (e : Fm M H H') (h : LstM M H a xs) : LstM M H' a xs := ⟨h.1, e _ _ h.2 h.1 (fun ps q => by cases q)⟩
theorem ScrM.fm (e : Fm M H H') (h : ScrM K M H a xs) : ScrM K M H' a xs := h.imp (fun ⟨z, o, q⟩ => ⟨z, o, e _ _ q z (fun ps q => by cases q)⟩) id
theorem TupM.fm (e : Fm M H H') (h : TupM K M H a xs) : TupM K M H' a xs := h.imp (fun z => ⟨z.1, e.rd z.1 (fun ps q => by cases q) z.2⟩) id
theorem LstM.anti (s : ∀ b, M' b → M b) (h : LstM M H a xs) : LstM M' H a xs := ⟨fun q => h.1 (s a q), h.2⟩
theorem ScrM.anti (s : ∀ b, M' b → M b) (h : ScrM K M H a xs) : ScrM K M' H a xs := h.imp (fun z => ⟨fun q => z.1 (s a q), z.2⟩) id
theorem TupM.anti (s : ∀ b, M' b → M b) (h : TupM K M H a xs) : TupM K M' H a xs := h.imp (fun z => ⟨fun q => z.1 (s a q), z.2⟩) id
end
def kD : Key → PyData
  | .inl i => .int i
  | .inr x => .str x
def dictD (kvs : List (Key × PyData)) : List (PyData × PyData) := kvs.map fun p => (kD p.1, p.2)
/-! the value v is the tree d; nothing at M is looked at -/
mutual
inductive DM (K : PySem.W.Frag) (M : Ad) (H : Hp) : V → PyData → Prop
  | non : DM K M H .non .none
  | bl (b : Bool) : DM K M H (.bl b) (.bool b)
  | int (i : Int) : DM K M H (.int i) (.int i)
  | str (x : Str) : DM K M H (.str x) (.str x)
  | lst {a : Addr} {xs : List V} {ds : List PyData} : LstM M H a xs → DMs K M H xs ds → DM K M H (.ref a) (.list ds)
  | tup {a : Addr} {xs : List V} {ds : List PyData} : TupM K M H a xs → DMs K M H xs ds → DM K M H (.ref a) (.tuple ds)
  | dct {a : Addr} {kws : List (Key × V)} {kvs : List (Key × PyData)} : ¬ M a → H a = some (.dK kws) → DKs K M H kws kvs → DM K M H (.ref a) (.dict (dictD kvs))
inductive DMs (K : PySem.W.Frag) (M : Ad) (H : Hp) : List V → List PyData → Prop
  | nil : DMs K M H [] []
  | cons {v : V} {vs : List V} {d : PyData} {ds : List PyData} : DM K M H v d → DMs K M H vs ds → DMs K M H (v :: vs) (d :: ds)
inductive DKs (K : PySem.W.Frag) (M : Ad) (H : Hp) : List (Key × V) → List (Key × PyData) → Prop
  | nil : DKs K M H [] []
  | cons {k : Key} {v : V} {vs : List (Key × V)} {d : PyData} {ds : List (Key × PyData)} : DM K M H v d → DKs K M H vs ds → DKs K M H ((k, v) :: vs) ((k, d) :: ds)
end
section
variable {K : PySem.W.Frag} {M M' : Ad} {H H' : Hp}
mutual
theorem DM.fm (e : Fm M H H') : ∀ {v : V} {d : PyData}, DM K M H v d → DM K M H' v d
  | _, _, .non => .non
  | _, _, .bl b => .bl b
  | _, _, .int i => .int i
  | _, _, .str x => .str x
  | _, _, .lst h r => .lst (h.fm e) (DMs.fm e r)
  | _, _, .tup h r => .tup (h.fm e) (DMs.fm e r)
  | _, _, .dct m h r => .dct m (e _ _ h m (fun ps q => by cases q)) (DKs.fm e r)
theorem DMs.fm (e : Fm M H H') : ∀ {vs : List V} {ds : List PyData}, DMs K M H vs ds → DMs K M H' vs ds
  | _, _, .nil => .nil
  | _, _, .cons h r => .cons (DM.fm e h) (DMs.fm e r)
theorem DKs.fm (e : Fm M H H') : ∀ {vs : List (Key × V)} {ds : List (Key × PyData)}, DKs K M H vs ds → DKs K M H' vs ds
  | _, _, .nil => .nil
  | _, _, .cons h r => .cons (DM.fm e h) (DKs.fm e r)
end
mutual
theorem DM.anti (s : ∀ b, M' b → M b) : ∀ {v : V} {d : PyData}, DM K M H v d → DM K M' H v d
  | _, _, .non => .non
  | _, _, .bl b => .bl b
  | _, _, .int i => .int i
  | _, _, .str x => .str x
  | _, _, .lst h r => .lst (h.anti s) (DMs.anti s r)
  | _, _, .tup h r => .tup (h.anti s) (DMs.anti s r)
  | _, _, .dct m h r => .dct (fun q => m (s _ q)) h (DKs.anti s r)
theorem DMs.anti (s : ∀ b, M' b → M b) : ∀ {vs : List V} {ds : List PyData}, DMs K M H vs ds → DMs K M' H vs ds
  | _, _, .nil => .nil
  | _, _, .cons h r => .cons (DM.anti s h) (DMs.anti s r)
theorem DKs.anti (s : ∀ b, M' b → M b) : ∀ {vs : List (Key × V)} {ds : List (Key × PyData)}, DKs K M H vs ds → DKs K M' H vs ds
  | _, _, .nil => .nil
  | _, _, .cons h r => .cons (DM.anti s h) (DKs.anti s r)
end
/-- nothing at p is looked at where p does not stand yet -/
def Off (H : Hp) (p : Addr) : Prop := ∀ o, H p = some o → ∃ ps, o = HO.tbl ps
theorem Off.of_none {p : Addr} (h : H p = none) : Off H p := fun o q => by rw [h] at q; cases q
theorem Off.back {p : Addr} (e : ExtN H H') (h : Off H' p) : Off H p := fun o q => by
  by_cases z : ∃ ps, o = HO.tbl ps
  · exact z
  · exact h o (e p o q fun ps w => z ⟨ps, w⟩)
theorem Off.rd {p a : Addr} {u : HO} (h : Off H p) (r : Rd H a u) (n : ∀ ps, u ≠ .tbl ps) : a ≠ p := by
  intro q
  subst q
  rcases r with r | ⟨o, r⟩
  · obtain ⟨ps, z⟩ := h _ r
    exact n ps z
  · obtain ⟨ps, z⟩ := h _ r
    cases z
theorem LstM.more {p a : Addr} {xs : List V} (h : Off H p) (l : LstM M H a xs) : LstM (fun b => M b ∨ b = p) H a xs :=
  ⟨fun q => q.elim l.1 (h.rd (.inl l.2) (fun ps q => by cases q)), l.2⟩
theorem ScrM.more {p a : Addr} {xs : List V} (h : Off H p) (l : ScrM K M H a xs) : ScrM K (fun b => M b ∨ b = p) H a xs :=
  l.imp (fun ⟨z, o, w⟩ => ⟨fun q => q.elim z (h.rd (.inl w) (fun ps q => by cases q)), o, w⟩) id
theorem TupM.more {p a : Addr} {xs : List V} (h : Off H p) (l : TupM K M H a xs) : TupM K (fun b => M b ∨ b = p) H a xs :=
  l.imp (fun z => ⟨fun q => q.elim z.1 (h.rd z.2 (fun ps q => by cases q)), z.2⟩) id
mutual
theorem DM.more {p : Addr} (h : Off H p) : ∀ {v : V} {d : PyData}, DM K M H v d → DM K (fun b => M b ∨ b = p) H v d
  | _, _, .non => .non
  | _, _, .bl b => .bl b
  | _, _, .int i => .int i
  | _, _, .str x => .str x
  | _, _, .lst l r => .lst (l.more h) (DMs.more h r)
  | _, _, .tup l r => .tup (l.more h) (DMs.more h r)
  | _, _, .dct m e r => .dct (fun q => q.elim m (fun z => h.rd (.inl e) (fun ps q => by cases q) z)) e (DKs.more h r)
theorem DMs.more {p : Addr} (h : Off H p) : ∀ {vs : List V} {ds : List PyData}, DMs K M H vs ds → DMs K (fun b => M b ∨ b = p) H vs ds
  | _, _, .nil => .nil
  | _, _, .cons l r => .cons (DM.more h l) (DMs.more h r)
theorem DKs.more {p : Addr} (h : Off H p) : ∀ {vs : List (Key × V)} {ds : List (Key × PyData)}, DKs K M H vs ds → DKs K (fun b => M b ∨ b = p) H vs ds
  | _, _, .nil => .nil
  | _, _, .cons l r => .cons (DM.more h l) (DKs.more h r)
end
theorem DMs.length : ∀ {vs : List V} {ds : List PyData}, DMs K M H vs ds → vs.length = ds.length
  | _, _, .nil => rfl
  | _, _, .cons _ r => by rw [List.length_cons, List.length_cons, DMs.length r]
theorem DMs.append : ∀ {vs ws : List V} {ds es : List PyData}, DMs K M H vs ds → DMs K M H ws es → DMs K M H (vs ++ ws) (ds ++ es)
  | _, _, _, _, .nil, s => s
  | _, _, _, _, .cons h r, s => .cons h (DMs.append r s)
theorem DMs.get : ∀ {vs : List V} {ds : List PyData} {i : Nat} {v : V}, DMs K M H vs ds → vs[i]? = some v → ∃ d, ds[i]? = some d ∧ DM K M H v d
  | _, _, _, _, .nil, e => by simp at e
  | _, _, 0, _, .cons h _, e => by
    have q := Option.some.inj (by simpa using e)
    subst q
    exact ⟨_, rfl, h⟩
  | _, _, i + 1, v, .cons _ r, e => by
    obtain ⟨d, h1, h2⟩ := DMs.get (i := i) (v := v) r (by simpa using e)
    exact ⟨d, by simpa using h1, h2⟩
theorem DMs.at : ∀ {vs : List V} {ds : List PyData} {i : Nat} {d : PyData}, DMs K M H vs ds → ds[i]? = some d → ∃ v, vs[i]? = some v ∧ DM K M H v d
  | _, _, _, _, .nil, e => by simp at e
  | _, _, 0, _, .cons h _, e => by
    have q := Option.some.inj (by simpa using e)
    subst q
    exact ⟨_, rfl, h⟩
  | _, _, i + 1, d, .cons _ r, e => by
    obtain ⟨v, h1, h2⟩ := DMs.at (i := i) (d := d) r (by simpa using e)
    exact ⟨v, by simpa using h1, h2⟩
theorem DMs.set {v : V} {d : PyData} (h : DM K M H v d) : ∀ {vs : List V} {ds : List PyData} (i : Nat), DMs K M H vs ds → DMs K M H (vs.set i v) (ds.set i d)
  | _, _, _, .nil => .nil
  | _, _, 0, .cons _ r => .cons h r
  | _, _, i + 1, .cons g r => .cons g (DMs.set h i r)
theorem DMs.take : ∀ {vs : List V} {ds : List PyData} (n : Nat), DMs K M H vs ds → DMs K M H (vs.take n) (ds.take n)
  | _, _, 0, _ => .nil
  | _, _, _ + 1, .nil => .nil
  | _, _, n + 1, .cons h r => .cons h (DMs.take n r)
theorem DMs.drop : ∀ {vs : List V} {ds : List PyData} (n : Nat), DMs K M H vs ds → DMs K M H (vs.drop n) (ds.drop n)
  | _, _, 0, r => r
  | _, _, _ + 1, .nil => .nil
  | _, _, n + 1, .cons _ r => DMs.drop n r
end

/-! ### the hand of draws -/
def HandP (a c : Addr) (L : Nat) (h : Heap) : Prop := ∃ (is : List Int) (us : List Value) (n : Nat),
  h.get? a = some { cls := .type "list", data := .seq (Value.ref c :: us).toArray n } ∧ Vals (is.map V.int) us ∧ is.length = L ∧ L ≤ 8 ∧ ∀ i ∈ is, 0 ≤ i
/-- a list of a list of ints (the cells) and of L ints, none below 0 -/
def HandO (a c : Addr) (L : Nat) : HO := .ext (HandP a c L)
def IsHand (L : Nat) (M : Ad) (H : Hp) (a : Addr) : Prop := ∃ (c : Addr) (ns : List Int), ¬ M a ∧ ¬ M c ∧ H a = some (HandO a c L) ∧ H c = some (.lst (ns.map V.int))
section
variable {K : PySem.W.Frag} {M M' : Ad} {H H' Hb : Hp} {a p : Addr} {v : V} {r : R} {L : Nat}
theorem IsHand.fm (e : Fm M H H') (h : IsHand L M H a) : IsHand L M H' a := by
  obtain ⟨c, ns, m1, m2, h1, h2⟩ := h
  exact ⟨c, ns, m1, m2, e _ _ h1 m1 (fun ps q => by cases q), e _ _ h2 m2 (fun ps q => by cases q)⟩
theorem IsHand.anti (s : ∀ b, M' b → M b) (h : IsHand L M H a) : IsHand L M' H a := by
  obtain ⟨c, ns, m1, m2, h1⟩ := h
  exact ⟨c, ns, fun q => m1 (s _ q), fun q => m2 (s _ q), h1⟩
theorem IsHand.more (o : Off H p) (h : IsHand L M H a) : IsHand L (fun b => M b ∨ b = p) H a := by
  obtain ⟨c, ns, m1, m2, h1, h2⟩ := h
  exact ⟨c, ns, fun q => q.elim m1 (o.rd (.inl h1) (fun ps q => by cases q)), fun q => q.elim m2 (o.rd (.inl h2) (fun ps q => by cases q)), h1, h2⟩

/-- a slot's value -/
def RS (K : PySem.W.Frag) (M : Ad) (H : Hp) (v : V) : R → Prop
  | .d x => DM K M H v x
  | .own xs => ∃ (a : Addr) (vs : List V), v = .ref a ∧ M a ∧ H a = some (.lst vs) ∧ DMs K M H vs xs
  | .fr _ => False
  | .dk kvs => ∃ (a : Addr) (kws : List (Key × V)), v = .ref a ∧ M a ∧ H a = some (.dK kws) ∧ DKs K M H kws kvs
  | .fk _ => False
  | .hand L => ∃ a, v = .ref a ∧ IsHand L M H a
  | .scr ns => ∃ a, v = .ref a ∧ ScrM K M H a (ns.map V.int)
  | .adr b => v = .ref b
/-- an expression's value; Hb: the heap ahead of it -/
def RR (K : PySem.W.Frag) (M : Ad) (Hb H : Hp) (v : V) : R → Prop
  | .d x => DM K M H v x
  | .own xs => ∃ (a : Addr) (vs : List V), v = .ref a ∧ M a ∧ H a = some (.lst vs) ∧ DMs K M H vs xs
  | .fr xs => ∃ (p : Addr) (vs : List V), v = .ref p ∧ Off Hb p ∧ H p = some (.lst vs) ∧ DMs K (fun b => M b ∨ b = p) H vs xs
  | .dk kvs => ∃ (a : Addr) (kws : List (Key × V)), v = .ref a ∧ M a ∧ H a = some (.dK kws) ∧ DKs K M H kws kvs
  | .fk kvs => ∃ (p : Addr) (kws : List (Key × V)), v = .ref p ∧ Off Hb p ∧ H p = some (.dK kws) ∧ DKs K (fun b => M b ∨ b = p) H kws kvs
  | .hand L => ∃ a, v = .ref a ∧ IsHand L M H a
  | .scr ns => ∃ a, v = .ref a ∧ ScrM K M H a (ns.map V.int)
  | .adr b => v = .ref b
theorem RS.ext (e : ExtN H H') (h : RS K M H v r) : RS K M H' v r := by
  cases r with
  | d x => exact DM.fm (.of e) h
  | own xs =>
    obtain ⟨a, vs, e1, m, e2, e3⟩ := h
    exact ⟨a, vs, e1, m, e _ _ e2 (fun ps q => by cases q), DMs.fm (.of e) e3⟩
  | fr xs => exact h
  | dk kvs =>
    obtain ⟨a, vs, e1, m, e2, e3⟩ := h
    exact ⟨a, vs, e1, m, e _ _ e2 (fun ps q => by cases q), DKs.fm (.of e) e3⟩
  | fk kvs => exact h
  | hand L =>
    obtain ⟨a, e1, h⟩ := h
    exact ⟨a, e1, h.fm (.of e)⟩
  | scr ns =>
    obtain ⟨a, e1, h⟩ := h
    exact ⟨a, e1, h.fm (.of e)⟩
  | adr b => exact h
theorem RR.ext (e : ExtN H H') (h : RR K M Hb H v r) : RR K M Hb H' v r := by
  cases r with
  | d x => exact DM.fm (.of e) h
  | own xs =>
    obtain ⟨a, vs, e1, m, e2, e3⟩ := h
    exact ⟨a, vs, e1, m, e _ _ e2 (fun ps q => by cases q), DMs.fm (.of e) e3⟩
  | fr xs =>
    obtain ⟨p, vs, e1, o, e2, e3⟩ := h
    exact ⟨p, vs, e1, o, e _ _ e2 (fun ps q => by cases q), DMs.fm (.of e) e3⟩
  | dk kvs =>
    obtain ⟨a, vs, e1, m, e2, e3⟩ := h
    exact ⟨a, vs, e1, m, e _ _ e2 (fun ps q => by cases q), DKs.fm (.of e) e3⟩
  | fk kvs =>
    obtain ⟨p, vs, e1, o, e2, e3⟩ := h
    exact ⟨p, vs, e1, o, e _ _ e2 (fun ps q => by cases q), DKs.fm (.of e) e3⟩
  | hand L =>
    obtain ⟨a, e1, h⟩ := h
    exact ⟨a, e1, h.fm (.of e)⟩
  | scr ns =>
    obtain ⟨a, e1, h⟩ := h
    exact ⟨a, e1, h.fm (.of e)⟩
  | adr b => exact h
/-- .. told from further back -/
theorem RR.back {Ha : Hp} (e : ExtN Ha Hb) (h : RR K M Hb H v r) : RR K M Ha H v r := by
  cases r with
  | d x => exact h
  | own xs => exact h
  | fr xs =>
    obtain ⟨p, vs, e1, o, e2, e3⟩ := h
    exact ⟨p, vs, e1, o.back e, e2, e3⟩
  | dk kvs => exact h
  | fk kvs =>
    obtain ⟨p, vs, e1, o, e2, e3⟩ := h
    exact ⟨p, vs, e1, o.back e, e2, e3⟩
  | hand L => exact h
  | scr ns => exact h
  | adr b => exact h
theorem RS.rr (h : RS K M H v r) : RR K M H H v r := by
  cases r with
  | d x => exact h
  | own xs => exact h
  | fr xs => exact False.elim h
  | dk kvs => exact h
  | fk kvs => exact False.elim h
  | hand L => exact h
  | scr ns => exact h
  | adr b => exact h
/-- read, whatever it is -/
def R.wk : R → (PyData → Prop) → Prop
  | .d x, k => k x
  | .own xs, k => k (.list xs)
  | .fr xs, k => k (.list xs)
  | .dk kvs, k => k (.dict (dictD kvs))
  | .fk kvs, k => k (.dict (dictD kvs))
  | .hand _, _ => False
  | .scr _, _ => False
  | .adr _, _ => False
/-- a value read: a tree, or a list (whoever's it is) of trees -/
def WR (K : PySem.W.Frag) (M : Ad) (H : Hp) (v : V) (x : PyData) : Prop :=
  DM K M H v x ∨ (∃ (p : Addr) (vs : List V) (xs : List PyData), v = .ref p ∧ x = .list xs ∧ H p = some (.lst vs) ∧ DMs K M H vs xs) ∨ ∃ (p : Addr) (kws : List (Key × V)) (kvs : List (Key × PyData)), v = .ref p ∧ x = .dict (dictD kvs) ∧ H p = some (.dK kws) ∧ DKs K M H kws kvs
theorem WR.ext {x : PyData} (e : ExtN H H') (h : WR K M H v x) : WR K M H' v x :=
  h.imp (fun z => DM.fm (.of e) z) (Or.imp (fun ⟨p, vs, xs, e1, e2, e3, e4⟩ => ⟨p, vs, xs, e1, e2, e _ _ e3 (fun ps q => by cases q), DMs.fm (.of e) e4⟩) fun ⟨p, vs, xs, e1, e2, e3, e4⟩ => ⟨p, vs, xs, e1, e2, e _ _ e3 (fun ps q => by cases q), DKs.fm (.of e) e4⟩)
theorem RR.weak {k : PyData → Prop} (h : RR K M Hb H v r) (q : r.wk k) : ∃ x, WR K M H v x ∧ k x := by
  cases r with
  | d x => exact ⟨x, .inl h, q⟩
  | own xs =>
    obtain ⟨a, vs, e1, m, e2, e3⟩ := h
    exact ⟨_, .inr (.inl ⟨a, vs, xs, e1, rfl, e2, e3⟩), q⟩
  | fr xs =>
    obtain ⟨p, vs, e1, o, e2, e3⟩ := h
    exact ⟨_, .inr (.inl ⟨p, vs, xs, e1, rfl, e2, DMs.anti (fun b z => .inl z) e3⟩), q⟩
  | dk kvs =>
    obtain ⟨a, vs, e1, m, e2, e3⟩ := h
    exact ⟨_, .inr (.inr ⟨a, vs, kvs, e1, rfl, e2, e3⟩), q⟩
  | fk kvs =>
    obtain ⟨p, vs, e1, o, e2, e3⟩ := h
    exact ⟨_, .inr (.inr ⟨p, vs, kvs, e1, rfl, e2, DKs.anti (fun b z => .inl z) e3⟩), q⟩
  | hand L => exact False.elim q
  | scr ns => exact False.elim q
  | adr b => exact False.elim q
/-- kept, as a tree: a new list becomes one, a list of the frame's own does not -/
def R.st : R → (PyData → Prop) → Prop
  | .d x, k => k x
  | .fr xs, k => k (.list xs)
  | .fk kvs, k => k (.dict (dictD kvs))
  | .own _, _ => False
  | .dk _, _ => False
  | .hand _, _ => False
  | .scr _, _ => False
  | .adr _, _ => False
theorem RR.strong {k : PyData → Prop} (hm : ∀ b, M b → ¬ Off Hb b) (h : RR K M Hb H v r) (q : r.st k) : ∃ x, DM K M H v x ∧ k x := by
  cases r with
  | d x => exact ⟨x, h, q⟩
  | own xs => exact False.elim q
  | fr xs =>
    obtain ⟨p, vs, e1, o, e2, e3⟩ := h
    subst e1
    exact ⟨_, .lst ⟨fun z => hm p z o, e2⟩ (DMs.anti (fun b z => .inl z) e3), q⟩
  | dk kvs => exact False.elim q
  | fk kvs =>
    obtain ⟨p, vs, e1, o, e2, e3⟩ := h
    subst e1
    exact ⟨_, .dct (fun z => hm p z o) e2 (DKs.anti (fun b z => .inl z) e3), q⟩
  | hand L => exact False.elim q
  | scr ns => exact False.elim q
  | adr b => exact False.elim q
/-- an argument: a tree or the hand -/
def R.ar : R → (R → Prop) → Prop
  | .d x, k => k (.d x)
  | .fr xs, k => k (.d (.list xs))
  | .fk kvs, k => k (.d (.dict (dictD kvs)))
  | .own _, _ => False
  | .dk _, _ => False
  | .hand L, k => k (.hand L)
  | .scr ns, k => k (.scr ns)
  | .adr _, _ => False
def RA (K : PySem.W.Frag) (M : Ad) (H : Hp) (v : V) : R → Prop
  | .d x => DM K M H v x
  | .own _ => False
  | .fr _ => False
  | .dk _ => False
  | .fk _ => False
  | .hand L => ∃ a, v = .ref a ∧ IsHand L M H a
  | .scr ns => ∃ a, v = .ref a ∧ ScrM K M H a (ns.map V.int)
  | .adr _ => False
theorem RR.arg {k : R → Prop} (hm : ∀ b, M b → ¬ Off Hb b) (h : RR K M Hb H v r) (q : r.ar k) : ∃ r', RA K M H v r' ∧ k r' := by
  cases r with
  | d x => exact ⟨.d x, h, q⟩
  | own xs => exact False.elim q
  | fr xs =>
    obtain ⟨x, h1, h2⟩ := RR.strong (r := .fr xs) (k := fun x => k (.d x)) hm h q
    exact ⟨.d x, h1, h2⟩
  | dk kvs => exact False.elim q
  | fk kvs =>
    obtain ⟨x, h1, h2⟩ := RR.strong (r := .fk kvs) (k := fun x => k (.d x)) hm h q
    exact ⟨.d x, h1, h2⟩
  | hand L => exact ⟨.hand L, h, q⟩
  | scr ns => exact ⟨.scr ns, h, q⟩
  | adr b => exact False.elim q
theorem RA.ext (e : ExtN H H') (h : RA K M H v r) : RA K M H' v r := by
  cases r with
  | d x => exact DM.fm (.of e) h
  | own xs => exact h
  | fr xs => exact h
  | dk kvs => exact h
  | fk kvs => exact h
  | hand L =>
    obtain ⟨a, e1, h⟩ := h
    exact ⟨a, e1, h.fm (.of e)⟩
  | scr ns =>
    obtain ⟨a, e1, h⟩ := h
    exact ⟨a, e1, h.fm (.of e)⟩
  | adr b => exact h
theorem RA.rs (h : RA K M H v r) : RS K M H v r := by
  cases r with
  | d x => exact h
  | own xs => exact False.elim h
  | fr xs => exact False.elim h
  | dk kvs => exact False.elim h
  | fk kvs => exact False.elim h
  | hand L => exact h
  | scr ns => exact h
  | adr b => exact False.elim h
end

/-! ### what stands in a frame's slots -/
/-- an exception's class and its field, in the heap -/
def RX (P : Pm) (M : Ad) (x : Exc) (cls : Value) (d : Option Addr) (H : Hp) : Prop :=
  ∃ C, P.mg x.name = some (.ref C) ∧ cls = .ref C ∧ match x.arg with
    | none => d = none
    | some t => ∃ dd f v, d = some dd ∧ H dd = some (.xd [(f, v)]) ∧ DM P.K M H v t
/-- the frame's own, to be changed in place -/
def R.mine : R → Prop
  | .own _ => True
  | .dk _ => True
  | _ => False
structure RE (P : Pm) (H0 : Hp) (M0 M : Ad) (H : Hp) (σ : St) (ρ : Env3) : Prop where
  ext : ExtN H0 H
  tabs : Tabs P.T H
  m0 : ∀ a, M0 a → M a
  mdom : ∀ a, M a → ¬ Off H a
  mown : ∀ a, M a → M0 a ∨ Off H0 a
  m0dom : ∀ a, M0 a → ¬ Off H0 a
  slot : ∀ (i : Nat) (r : R), ρ[i]? = some (some r) → ∃ v, σ[i]? = some (some v) ∧ RS P.K M H v r
  minf : ∀ (i : Nat) (z : R) (a : Addr), z.mine → ρ[i]? = some (some z) → σ[i]? = some (some (.ref a)) → Off H0 a
  mind : ∀ (i j : Nat) (y z : R) (a : Addr), y.mine → z.mine → i ≠ j → ρ[i]? = some (some y) → ρ[j]? = some (some z) → σ[i]? = some (some (.ref a)) → σ[j]? ≠ some (some (.ref a))
  len : ρ.length = σ.length
section
variable {P : Pm} {H0 H H' : Hp} {M0 M : Ad} {σ : St} {ρ : Env3}
/-- the heap grew -/
theorem RE.grow (r : RE P H0 M0 M H σ ρ) (e : ExtN H H') (t : Tabs P.T H') : RE P H0 M0 M H' σ ρ where
  ext := r.ext.trans e
  tabs := t
  m0 := r.m0
  mdom := fun a m o => r.mdom a m (o.back e)
  mown := r.mown
  m0dom := r.m0dom
  slot := fun i z q => by
    obtain ⟨v, h1, h2⟩ := r.slot i z q
    exact ⟨v, h1, h2.ext e⟩
  minf := r.minf
  mind := r.mind
  len := r.len
theorem RE.ownf (r : RE P H0 M0 M H σ ρ) (i : Nat) (xs : List PyData) (a : Addr) (h : ρ[i]? = some (some (.own xs))) (h2 : σ[i]? = some (some (.ref a))) : Off H0 a := r.minf i (.own xs) a trivial h h2
theorem RE.ownd (r : RE P H0 M0 M H σ ρ) (i j : Nat) (xs ys : List PyData) (a : Addr) (ne : i ≠ j) (h : ρ[i]? = some (some (.own xs))) (h2 : ρ[j]? = some (some (.own ys))) (h3 : σ[i]? = some (some (.ref a))) : σ[j]? ≠ some (some (.ref a)) := r.mind i j (.own xs) (.own ys) a trivial trivial ne h h2 h3
/-- where one's own stands -/
theorem RS.at {K : PySem.W.Frag} {M : Ad} {H : Hp} {v : V} {z : R} (m : z.mine) (h : RS K M H v z) : ∃ a, v = .ref a ∧ M a ∧ ∃ o, H a = some o ∧ ∀ ps, o ≠ .tbl ps := by
  cases z with
  | own xs =>
    obtain ⟨a, vs, e1, m, e2, _⟩ := h
    exact ⟨a, e1, m, _, e2, fun ps q => by cases q⟩
  | dk kvs =>
    obtain ⟨a, vs, e1, m, e2, _⟩ := h
    exact ⟨a, e1, m, _, e2, fun ps q => by cases q⟩
  | _ => exact False.elim m
end

theorem RX.anti {P : Pm} {M M' : Ad} {x : Exc} {cls : Value} {d : Option Addr} {H : Hp} (s : ∀ b, M' b → M b) (h : RX P M x cls d H) : RX P M' x cls d H := by
  obtain ⟨C, h1, h2, h3⟩ := h
  refine ⟨C, h1, h2, ?_⟩
  cases e : x.arg with
  | none => rw [e] at h3; exact h3
  | some t =>
    rw [e] at h3
    obtain ⟨dd, f, v, e1, e2, e3⟩ := h3
    exact ⟨dd, f, v, e1, e2, DM.anti s e3⟩
/-- what is wanted of the exceptions that an expression lets out -/
def XOk (P : Pm) (E : XK) (XW : Exc → Prop) (M : Ad) (H : Hp) : Prop := ∀ x cls d H', XW x → ExtN H H' → Tabs P.T H' → RX P M x cls d H' → E cls d H'
theorem XOk.grow {P : Pm} {E : XK} {XW : Exc → Prop} {M : Ad} {H H1 : Hp} (h : XOk P E XW M H) (e : ExtN H H1) : XOk P E XW M H1 := fun x cls d H' hx e' t r => h x cls d H' hx (e.trans e') t r
theorem XOk.sub {P : Pm} {E : XK} {XW : Exc → Prop} {M M' : Ad} {H : Hp} (h : XOk P E XW M H) (s : ∀ b, M b → M' b) : XOk P E XW M' H := fun x cls d H' hx e' t r => h x cls d H' hx e' t (r.anti s)
theorem XOk.no {P : Pm} {E : XK} {M : Ad} {H : Hp} : XOk P E (fun _ => False) M H := fun _ _ _ _ h => h.elim
/-! ### tree-level readings and their liftings -/
abbrev W := Env3 → (R → Prop) → (Exc → Prop) → Prop
abbrev WB := Env3 → (Bool → Prop) → (Exc → Prop) → Prop
abbrev WA := Env3 → (List R → Prop) → (Exc → Prop) → Prop
abbrev WG := PyData → Env3 → (Env3 → Prop) → Prop
structure End3 where
  nx : Env3 → Prop
  rt : R → Prop
  bk : Env3 → Prop := fun _ => False
  ct : Env3 → Prop := fun _ => False
abbrev WS := End3 → Env3 → (Exc → Prop) → Prop
def lift (P : Pm) (E : XK) (w : W) : TE := fun σ H Q => ∃ H0 M0 M ρ XW Q3, RE P H0 M0 M H σ ρ ∧ XOk P E XW M H ∧ w ρ Q3 XW ∧
  ∀ r v H', Q3 r → ExtN H H' → Tabs P.T H' → RR P.K M H H' v r → Q v H'
def liftB (P : Pm) (E : XK) (w : WB) : TT := fun σ H Q => ∃ H0 M0 M ρ XW Q3, RE P H0 M0 M H σ ρ ∧ XOk P E XW M H ∧ w ρ Q3 XW ∧
  ∀ b H', Q3 b → ExtN H H' → Tabs P.T H' → Q b H'
/-- argument by argument, each a tree or the hand -/
inductive RAs (K : PySem.W.Frag) (M : Ad) (H : Hp) : List V → List R → Prop
  | nil : RAs K M H [] []
  | cons {v : V} {vs : List V} {r : R} {rs : List R} : RA K M H v r → RAs K M H vs rs → RAs K M H (v :: vs) (r :: rs)
theorem RAs.ext {K : PySem.W.Frag} {M : Ad} {H H' : Hp} (e : ExtN H H') : ∀ {vs : List V} {rs : List R}, RAs K M H vs rs → RAs K M H' vs rs
  | _, _, .nil => .nil
  | _, _, .cons h r => .cons (h.ext e) (RAs.ext e r)
theorem RAs.length {K : PySem.W.Frag} {M : Ad} {H : Hp} : ∀ {vs : List V} {rs : List R}, RAs K M H vs rs → vs.length = rs.length
  | _, _, .nil => rfl
  | _, _, .cons _ r => by rw [List.length_cons, List.length_cons, RAs.length r]
def liftA (P : Pm) (E : XK) (w : WA) : TA := fun σ H Q => ∃ H0 M0 M ρ XW Q3, RE P H0 M0 M H σ ρ ∧ XOk P E XW M H ∧ w ρ Q3 XW ∧
  ∀ rs vs H', Q3 rs → ExtN H H' → Tabs P.T H' → RAs P.K M H' vs rs → Q vs H'
structure EndsOk (P : Pm) (E : XK) (XW : Exc → Prop) (H0 : Hp) (M0 : Ad) (D3 : End3) (D : Ends) : Prop where
  nx : ∀ ρ' M' H' σ', D3.nx ρ' → RE P H0 M0 M' H' σ' ρ' → D.nx σ' H'
  bk : ∀ ρ' M' H' σ', D3.bk ρ' → RE P H0 M0 M' H' σ' ρ' → D.bk σ' H'
  ct : ∀ ρ' M' H' σ', D3.ct ρ' → RE P H0 M0 M' H' σ' ρ' → D.ct σ' H'
  ex : ∀ x cls d H', XW x → ExtN H0 H' → Tabs P.T H' → RX P M0 x cls d H' → E cls d H'
  rt : ∀ r v H', D3.rt r → ExtN H0 H' → Tabs P.T H' → RR P.K M0 H0 H' v r → D.rt v H'
theorem EndsOk.xo {P : Pm} {E : XK} {XW : Exc → Prop} {H0 H : Hp} {M0 M : Ad} {D3 : End3} {D : Ends} {σ : St} {ρ : Env3} (k : EndsOk P E XW H0 M0 D3 D) (re : RE P H0 M0 M H σ ρ) : XOk P E XW M H :=
  fun x cls d H' hx e t r => k.ex x cls d H' hx (re.ext.trans e) t (r.anti re.m0)
def liftS (P : Pm) (E : XK) (w : WS) : TS := fun D σ H => ∃ H0 M0 M ρ XW D3, RE P H0 M0 M H σ ρ ∧ w D3 ρ XW ∧ EndsOk P E XW H0 M0 D3 D
abbrev pm (X : Cx) (T : List (Addr × Str)) : Pm := ⟨X.K, X.mg, T⟩

/-! ### weaker readings -/
section
variable {X : Cx}
theorem PEimp {e : Expr} {t t' : TE} (h : PE X e t) (f : ∀ σ H Q, t' σ H Q → t σ H Q) : PE X e t' := ⟨fun pins s σ H Q I q => h.run pins s σ H Q I (f _ _ _ q)⟩
theorem PTimp {e : Expr} {t t' : TT} (h : PT X e t) (f : ∀ σ H Q, t' σ H Q → t σ H Q) : PT X e t' := ⟨fun pins s σ H Q I q => h.run pins s σ H Q I (f _ _ _ q)⟩
theorem PWimp {e : Expr} {t t' : TT} (h : PW X e t) (f : ∀ σ H Q, t' σ H Q → t σ H Q) : PW X e t' := ⟨fun wh pins s σ H Q I q => h.run wh pins s σ H Q I (f _ _ _ q)⟩
theorem PAimp {es : List Expr} {t t' : TA} (h : PA X es t) (f : ∀ σ H Q, t' σ H Q → t σ H Q) : PA X es t' := ⟨fun pos pins s σ H Q I q => h.run pos pins s σ H Q I (f _ _ _ q)⟩
theorem PSimp {st : Stmt} {t t' : TS} (h : PS X st t) (f : ∀ D σ H, t' D σ H → t D σ H) : PS X st t' := ⟨fun pins s σ H D I q => h.run pins s σ H D I (f _ _ _ q)⟩
theorem PSsimp {st : List Stmt} {t t' : TS} (h : PSs X st t) (f : ∀ D σ H, t' D σ H → t D σ H) : PSs X st t' := ⟨fun pins s σ H D I q => h.run pins s σ H D I (f _ _ _ q)⟩
theorem PGimp {e : Expr} {t t' : TG} (h : PG X e t) (f : ∀ v σ H Q, t' v σ H Q → t v σ H Q) : PG X e t' := ⟨fun pins s σ H v u Q I r q => h.run pins s σ H v u Q I r (f _ _ _ _ q)⟩
end
end T3
set_option linter.all false
set_option maxRecDepth 100000
set_option maxHeartbeats 2000000
set_option Elab.async false
/-! T2: rules for expressions, tree by tree. -/
namespace T3
open L2 LamX PySem PyProof.Rows PySem.Spec

/-! ### a fresh object -/
section
variable {K : PySem.W.Frag} {T : List (Addr × Str)} {M : Ad} {H H' : Hp} {p : Addr}
theorem ext_new {o : HO} (h : H p = none) : ExtN H (upd H p o) := fun b u q _ => by
  rw [upd_ne (ne_of_none q h)]
  exact q
theorem tabs_new {o : HO} (t : Tabs T H) (h : H p = none) : Tabs T (upd H p o) := t.ext fun b u q => by
  rw [upd_ne (ne_of_none q h)]
  exact q
theorem notM_new (hm : ∀ a, M a → ¬ Off H a) (e : ExtN H H') (h : H' p = none) : ¬ M p := fun m => hm p m ((Off.of_none h).back e)
theorem tup_new {vs : List V} {xs : List PyData} (hm : ∀ a, M a → ¬ Off H a) (e : ExtN H H') (h : H' p = none) (r : DMs K M H' vs xs) : DM K M (upd H' p (.tup vs)) (.ref p) (.tuple xs) :=
  .tup (.inl ⟨notM_new hm e h, .inl upd_same⟩) (DMs.fm (.of (ext_new h)) r)
theorem lst_new {vs : List V} {xs : List PyData} (e : ExtN H H') (h : H' p = none) (r : DMs K M H' vs xs) : RR K M H (upd H' p (.lst vs)) (.ref p) (.fr xs) :=
  ⟨p, vs, rfl, (Off.of_none h).back e, upd_same, DMs.fm (.of (ext_new h)) (DMs.more (Off.of_none h) r)⟩
end

/-! ### slots and constants -/
def wV (i : Nat) : W := fun ρ Q _ => ∃ r, ρ[i]? = some (some r) ∧ Q r
def wC (x : PyData) : W := fun _ Q _ => Q (.d x)
section
variable {X : Cx} {T : List (Addr × Str)} {E : XK} {e a b : Expr} {pos : Pos}
theorem ev_var {i : Nat} (h : PE X e (tVar i)) : PE X e (lift (pm X T) E (wV i)) := PEimp h fun σ H Q ⟨H0, M0, M, ρ, XW, Q3, re, xo, ⟨r, hr, q⟩, k⟩ => by
  obtain ⟨v, h1, h2⟩ := re.slot i r hr
  exact ⟨v, h1, k r v H q (ExtN.refl H) re.tabs h2.rr⟩
theorem ev_c {v : V} {x : PyData} (h : PE X e (tC v)) (hx : ∀ K M H, DM K M H v x) : PE X e (lift (pm X T) E (wC x)) := PEimp h fun σ H Q ⟨H0, M0, M, ρ, XW, Q3, re, xo, q, k⟩ =>
  k _ v H q (ExtN.refl H) re.tabs (hx _ _ _)
theorem ev_int {i : Int} {j pos} : PE X (.Constant (.int i) j pos) (lift (pm X T) E (wC (.int i))) := ev_c pe_int fun _ _ _ => .int i
theorem ev_bl {b : Bool} {j pos} : PE X (.Constant (.bool b) j pos) (lift (pm X T) E (wC (.bool b))) := ev_c pe_bl fun _ _ _ => .bl b
theorem ev_non {j pos} : PE X (.Constant .none j pos) (lift (pm X T) E (wC .none)) := ev_c pe_non fun _ _ _ => .non
theorem ev_str {x : Str} {j pos} : PE X (.Constant (.str x) j pos) (lift (pm X T) E (wC (.str x))) := ev_c pe_str fun _ _ _ => .str x

/-! ### lists of arguments -/
abbrev WL := Env3 → (List PyData → Prop) → (Exc → Prop) → Prop
abbrev Rel := PySem.W.Frag → Ad → Hp → V → PyData → Prop
structure Sel (Rl : Rel) (sel : R → (PyData → Prop) → Prop) : Prop where
  ext : ∀ {K M H H' v x}, ExtN H H' → Rl K M H v x → Rl K M H' v x
  get : ∀ {K M Hb H v r} {k : PyData → Prop}, (∀ b, M b → ¬ Off Hb b) → RR K M Hb H v r → sel r k → ∃ x, Rl K M H v x ∧ k x
theorem selS : Sel DM R.st := ⟨fun e h => DM.fm (.of e) h, fun hm h q => RR.strong hm h q⟩
theorem selW : Sel WR R.wk := ⟨fun e h => WR.ext e h, fun _ h q => RR.weak h q⟩
def liftL (Rl : Rel) (P : Pm) (E : XK) (n : Nat) (w : WL) : TA := fun σ H Q => ∃ H0 M0 M ρ XW Q3, RE P H0 M0 M H σ ρ ∧ XOk P E XW M H ∧ w ρ Q3 XW ∧
  ∀ xs vs H', Q3 xs → ExtN H H' → Tabs P.T H' → vs.length = n → Paired (Rl P.K M H') vs xs → Q vs H'
def wNil : WL := fun _ Q _ => Q []
def wCons (sel : R → (PyData → Prop) → Prop) (w : W) (ws : WL) : WL := fun ρ Q X => w ρ (fun r => sel r fun x => ws ρ (fun xs => Q (x :: xs)) X) X
theorem el_nil {Rl : Rel} : PA X [] (liftL Rl (pm X T) E 0 wNil) := PAimp pa_nil fun σ H Q ⟨H0, M0, M, ρ, XW, Q3, re, xo, q, k⟩ =>
  k [] [] H q (ExtN.refl H) re.tabs rfl .nil
theorem el_cons {Rl : Rel} {sel : R → (PyData → Prop) → Prop} {es : List Expr} {n : Nat} {w : W} {ws : WL} (S : Sel Rl sel) (he : PE X e (lift (pm X T) E w)) (hr : PA X es (liftL Rl (pm X T) E n ws))
    (hs : starEach (e :: es) X.env = (false, eval e X.env) :: starEach es X.env := by rfl) : PA X (e :: es) (liftL Rl (pm X T) E (n + 1) (wCons sel w ws)) := by
  refine PAimp (pa_cons he hr hs) fun σ H Q ⟨H0, M0, M, ρ, XW, Q3, re, xo, q, k⟩ => ?_
  refine ⟨H0, M0, M, ρ, XW, _, re, xo, q, fun r v H1 qr e1 t1 rr => ?_⟩
  obtain ⟨x, hx, qx⟩ := S.get re.mdom rr qr
  refine ⟨H0, M0, M, ρ, XW, _, re.grow e1 t1, xo.grow e1, qx, fun xs vs H2 q2 e2 t2 hl hp => ?_⟩
  exact k (x :: xs) (v :: vs) H2 q2 (e1.trans e2) t2 (by rw [List.length_cons, hl]) (.cons (S.ext e2 hx) hp)
theorem DMs.of_paired {K : PySem.W.Frag} {M : Ad} {H : Hp} : ∀ {vs : List V} {xs : List PyData}, Paired (DM K M H) vs xs → DMs K M H vs xs
  | _, _, .nil => .nil
  | _, _, .cons h r => .cons h (DMs.of_paired r)
theorem DMs.paired {K : PySem.W.Frag} {M : Ad} {H : Hp} : ∀ {vs : List V} {xs : List PyData}, DMs K M H vs xs → Paired (DM K M H) vs xs
  | _, _, .nil => .nil
  | _, _, .cons h r => .cons h (DMs.paired r)

/-! ### displays -/
def wTup (ws : WL) : W := fun ρ Q X => ws ρ (fun xs => Q (.d (.tuple xs))) X
def wLst (ws : WL) : W := fun ρ Q X => ws ρ (fun xs => Q (.fr xs)) X
theorem ev_tup {es : List Expr} {n : Nat} {ws : WL} {x1} (h : PA X es (liftL DM (pm X T) E n ws)) (hn : n ≤ sizeLine := by decide) : PE X (.Tuple es x1 pos) (lift (pm X T) E (wTup ws)) := by
  refine PEimp (pe_tup h) fun σ H Q ⟨H0, M0, M, ρ, XW, Q3, re, xo, q, k⟩ => ?_
  refine ⟨H0, M0, M, ρ, XW, _, re, xo, q, fun xs vs H1 q1 e1 t1 hl hp => ⟨by omega, fun p np => ?_⟩⟩
  exact k _ _ _ q1 (e1.trans (ext_new np)) (tabs_new t1 np) (tup_new re.mdom e1 np (DMs.of_paired hp))
theorem ev_lst {es : List Expr} {n : Nat} {ws : WL} (h : PA X es (liftL DM (pm X T) E n ws)) (hn : n ≤ sizeLine := by decide) : PE X (.List es pos) (lift (pm X T) E (wLst ws)) := by
  refine PEimp (pe_lst h) fun σ H Q ⟨H0, M0, M, ρ, XW, Q3, re, xo, q, k⟩ => ?_
  refine ⟨H0, M0, M, ρ, XW, _, re, xo, q, fun xs vs H1 q1 e1 t1 hl hp => ⟨by omega, fun p np => ?_⟩⟩
  exact k _ _ _ q1 (e1.trans (ext_new np)) (tabs_new t1 np) (lst_new e1 np (DMs.of_paired hp))
/-- {} -/
theorem ev_dct0 : PE X (.Dict [] [] pos) (lift (pm X T) E (wC (.dict []))) := PEimp pe_dnewK fun σ H Q ⟨H0, M0, M, ρ, XW, Q3, re, xo, q, k⟩ p np =>
  k _ _ _ q (ext_new np) (tabs_new re.tabs np) (.dct (kvs := []) (notM_new re.mdom (ExtN.refl H) np) upd_same .nil)
/-- {}, to be the frame's own -/
def wDn : W := fun _ Q _ => Q (.fk [])
theorem ev_dn : PE X (.Dict [] [] pos) (lift (pm X T) E wDn) := PEimp pe_dnewK fun σ H Q ⟨H0, M0, M, ρ, XW, Q3, re, xo, q, k⟩ p np =>
  k _ _ _ q (ext_new np) (tabs_new re.tabs np) ⟨p, _, rfl, .of_none np, upd_same, .nil⟩

/-! ### operators -/
abbrev Op2 := PyData → PyData → (R → Prop) → Prop
abbrev OpL := List PyData → (R → Prop) → Prop
def rD (P : Pm) (o : Op2) : R2 := fun x y H Q => ∃ (M : Ad) (d e : PyData) (Q3 : R → Prop), (∀ a, M a → ¬ Off H a) ∧ Tabs P.T H ∧ WR P.K M H x d ∧ WR P.K M H y e ∧ o d e Q3 ∧
  ∀ r v H', Q3 r → ExtN H H' → Tabs P.T H' → RR P.K M H H' v r → Q v H'
def rDs (P : Pm) (o : OpL) : List V → Hp → VK → Prop := fun vs H Q => ∃ (M : Ad) (ds : List PyData) (Q3 : R → Prop), (∀ a, M a → ¬ Off H a) ∧ Tabs P.T H ∧ Paired (WR P.K M H) vs ds ∧ o ds Q3 ∧
  ∀ r v H', Q3 r → ExtN H H' → Tabs P.T H' → RR P.K M H H' v r → Q v H'
def rD1 (P : Pm) (o : PyData → (R → Prop) → Prop) : V → Hp → VK → Prop := fun x H Q => ∃ (M : Ad) (d : PyData) (Q3 : R → Prop), (∀ a, M a → ¬ Off H a) ∧ Tabs P.T H ∧ WR P.K M H x d ∧ o d Q3 ∧
  ∀ r v H', Q3 r → ExtN H H' → Tabs P.T H' → RR P.K M H H' v r → Q v H'
def wOp (o : Op2) (a b : W) : W := fun ρ Q X => a ρ (fun r => r.wk fun x => b ρ (fun s => s.wk fun y => o x y Q) X) X
def wUn (o : PyData → (R → Prop) → Prop) (a : W) : W := fun ρ Q X => a ρ (fun r => r.wk fun x => o x Q) X
def wCall (o : OpL) (ws : WL) : W := fun ρ Q X => ws ρ (fun xs => o xs Q) X
theorem top_lift {o : Op2} {wa wb : W} {σ : St} {H : Hp} {Q : VK} (h : lift (pm X T) E (wOp o wa wb) σ H Q) : tOp (rD (pm X T) o) (lift (pm X T) E wa) (lift (pm X T) E wb) σ H Q := by
  obtain ⟨H0, M0, M, ρ, XW, Q3, re, xo, q, k⟩ := h
  refine ⟨H0, M0, M, ρ, XW, _, re, xo, q, fun r v H1 qr e1 t1 rr => ?_⟩
  obtain ⟨x, hx, qx⟩ := rr.weak qr
  refine ⟨H0, M0, M, ρ, XW, _, re.grow e1 t1, xo.grow e1, qx, fun s u H2 qs e2 t2 rs => ?_⟩
  obtain ⟨y, hy, qy⟩ := rs.weak qs
  have re2 := re.grow (e1.trans e2) t2
  exact ⟨M, x, y, Q3, re2.mdom, t2, hx.ext e2, hy, qy, fun r' v' H3 q3 e3 t3 rr3 => k r' v' H3 q3 ((e1.trans e2).trans e3) t3 (rr3.back (e1.trans e2))⟩
theorem ev_op {op : Operator} {o : Op2} {wa wb : W} (ho : OpR X (binaryOp op) (rD (pm X T) o)) (ha : PE X a (lift (pm X T) E wa)) (hb : PE X b (lift (pm X T) E wb)) :
    PE X (.BinOp a op b pos) (lift (pm X T) E (wOp o wa wb)) := PEimp (pe_op ho ha hb) fun _ _ _ h => top_lift h
theorem ev_cmp {op : CmpOp} {o : Op2} {wa wb : W} (ho : OpR X (compareOp op) (rD (pm X T) o)) (ha : PE X a (lift (pm X T) E wa)) (hb : PE X b (lift (pm X T) E wb)) (hm : behindInMarks op b = false) :
    PE X (.Compare a [op] [b] pos) (lift (pm X T) E (wOp o wa wb)) := PEimp (pe_cmpR ho ha hb hm) fun _ _ _ h => top_lift h
theorem ev_ix {o : Op2} {wa wb : W} (ho : IxR X (rD (pm X T) o)) (ha : PE X a (lift (pm X T) E wa)) (hb : PE X b (lift (pm X T) E wb)) (hs : PlainIx b) :
    PE X (.Subscript a b pos) (lift (pm X T) E (wOp o wa wb)) := PEimp (pe_ix ho ha hb hs) fun _ _ _ h => top_lift h
theorem ev_un {op : UnaryOp} {o : PyData → (R → Prop) → Prop} {wa : W} (ho : UnR X (unaryOp op) (rD1 (pm X T) o)) (ha : PE X a (lift (pm X T) E wa)) :
    PE X (.UnaryOp op a pos) (lift (pm X T) E (wUn o wa)) := PEimp (pe_un ho ha) fun σ H Q ⟨H0, M0, M, ρ, XW, Q3, re, xo, q, k⟩ => by
  refine ⟨H0, M0, M, ρ, XW, _, re, xo, q, fun r v H1 qr e1 t1 rr => ?_⟩
  obtain ⟨x, hx, qx⟩ := rr.weak qr
  exact ⟨M, x, Q3, (re.grow e1 t1).mdom, t1, hx, qx, fun r' v' H3 q3 e3 t3 rr3 => k r' v' H3 q3 (e1.trans e3) t3 (rr3.back e1)⟩
theorem tcb_lift {o : OpL} {ws : WL} {n : Nat} {σ : St} {H : Hp} {Q : VK} (h : lift (pm X T) E (wCall o ws) σ H Q) : tCB (rDs (pm X T) o) (liftL WR (pm X T) E n ws) σ H Q := by
  obtain ⟨H0, M0, M, ρ, XW, Q3, re, xo, q, k⟩ := h
  refine ⟨H0, M0, M, ρ, XW, _, re, xo, q, fun xs vs H1 qs e1 t1 hl hp => ?_⟩
  exact ⟨M, xs, Q3, (re.grow e1 t1).mdom, t1, hp, qs, fun r v H2 q2 e2 t2 rr => k r v H2 q2 (e1.trans e2) t2 (rr.back e1)⟩
theorem ev_callB {id : String} {x : Str} {p : Pos} {es : List Expr} {o : OpL} {ws : WL} {n : Nat} (hc : CallR X (.builtin id) (rDs (pm X T) o)) (hg : Gl X x) (hm : X.mg x = none) (hv : bootBuiltins x = some (.builtin id)) (ha : PA X (e :: es) (liftL WR (pm X T) E n ws))
    (hn : x ≠ "__name__" := by decide) (hdb : (x == ("__debug__" : Str)) = false := by decide) (he : starEach (e :: es) X.env = (false, eval e X.env) :: starEach es X.env := by rfl) (hpl : (backTo pos (starEach es X.env)).any (·.1) = false := by rfl) :
    PE X (.Call (.Name x p) (e :: es) [] pos) (lift (pm X T) E (wCall o ws)) := PEimp (pe_callB hc hg hm hv ha hn hdb he hpl) fun _ _ _ h => tcb_lift h
theorem ev_callTy {ty : String} {x : Str} {p : Pos} {es : List Expr} {o : OpL} {ws : WL} {n : Nat} (hc : CallR X (.type ty) (rDs (pm X T) o)) (hg : Gl X x) (hm : X.mg x = none) (hv : bootBuiltins x = some (.type ty)) (ha : PA X (e :: es) (liftL WR (pm X T) E n ws))
    (hn : x ≠ "__name__" := by decide) (hdb : (x == ("__debug__" : Str)) = false := by decide) (he : starEach (e :: es) X.env = (false, eval e X.env) :: starEach es X.env := by rfl) (hpl : (backTo pos (starEach es X.env)).any (·.1) = false := by rfl) :
    PE X (.Call (.Name x p) (e :: es) [] pos) (lift (pm X T) E (wCall o ws)) := PEimp (pe_callTy hc hg hm hv ha hn hdb he hpl) fun _ _ _ h => tcb_lift h

/-! ### truth -/
def R.bl : R → (Bool → Prop) → Prop
  | .d (.bool b), k => k b
  | _, _ => False
theorem RR.bool {K : PySem.W.Frag} {M : Ad} {Hb H : Hp} {v : V} {r : R} {k : Bool → Prop} (h : RR K M Hb H v r) (q : r.bl k) : ∃ b, v = .bl b ∧ k b := by
  cases r with
  | d x =>
    cases x with
    | bool b => cases h; exact ⟨b, rfl, q⟩
    | _ => exact False.elim q
  | _ => exact False.elim q
def wT (w : W) : WB := fun ρ Q X => w ρ (fun r => r.bl Q) X
def wNot (w : WB) : WB := fun ρ Q X => w ρ (fun b => Q (!b)) X
def wAnd (a b : WB) : WB := fun ρ Q X => a ρ (fun c => if c = true then b ρ Q X else Q false) X
def wOr (a b : WB) : WB := fun ρ Q X => a ρ (fun c => if c = true then Q true else b ρ Q X) X
/-- .. as values -/
def wB (w : WB) : W := fun ρ Q X => w ρ (fun b => Q (.d (.bool b))) X
def wAndV (a b : W) : W := fun ρ Q X => a ρ (fun r => r.bl fun c => if c = true then b ρ Q X else Q (.d (.bool false))) X
def wOrV (a b : W) : W := fun ρ Q X => a ρ (fun r => r.bl fun c => if c = true then Q (.d (.bool true)) else b ρ Q X) X
def wNotV (a : W) : W := fun ρ Q X => a ρ (fun r => r.bl fun c => Q (.d (.bool !c))) X
def wIf (c : WB) (a b : W) : W := fun ρ Q X => c ρ (fun c => if c = true then a ρ Q X else b ρ Q X) X
theorem tB_lift {w : W} {σ : St} {H : Hp} {Q : Bool → Hp → Prop} (h : liftB (pm X T) E (wT w) σ H Q) : tB (lift (pm X T) E w) σ H Q := by
  obtain ⟨H0, M0, M, ρ, XW, Q3, re, xo, q, k⟩ := h
  refine ⟨H0, M0, M, ρ, XW, _, re, xo, q, fun r v H1 qr e1 t1 rr => ?_⟩
  obtain ⟨b, e, qb⟩ := rr.bool qr
  exact ⟨b, e, k b H1 qb e1 t1⟩
/-- an expression (a name, a call, a subscript ..) as a test -/
theorem et_val {w : W} (h : PE X e (lift (pm X T) E w)) (he : ∀ whole, isTrue e X.env whole = (do let v ← whole; standAt e.pos; holding [v] (truthy v)) := by intro _; rfl) : PT X e (liftB (pm X T) E (wT w)) :=
  PTimp (pt_val h he) fun _ _ _ h => tB_lift h
theorem et_cmp {op : CmpOp} {o : Op2} {wa wb : W} (ho : OpR X (compareOp op) (rD (pm X T) o)) (ha : PE X a (lift (pm X T) E wa)) (hb : PE X b (lift (pm X T) E wb)) (hm : behindInMarks op b = false) :
    PT X (.Compare a [op] [b] pos) (liftB (pm X T) E (wT (wOp o wa wb))) := PTimp (pt_cmpR ho ha hb hm) fun σ H Q h => by
  obtain ⟨H0, M0, M, ρ, XW, Q3, re, xo, q, k⟩ := h
  have h' : lift (pm X T) E (wOp o wa wb) σ H (fun x H' => ∃ c, x = .bl c ∧ Q c H') := ⟨H0, M0, M, ρ, XW, _, re, xo, q, fun r v H1 qr e1 t1 rr => by
    obtain ⟨b, e, qb⟩ := rr.bool qr
    exact ⟨b, e, k b H1 qb e1 t1⟩⟩
  exact top_lift h'
theorem et_not {w : WB} (h : PT X a (liftB (pm X T) E w)) : PT X (.UnaryOp .Not a pos) (liftB (pm X T) E (wNot w)) := PTimp (pt_not h) fun σ H Q ⟨H0, M0, M, ρ, XW, Q3, re, xo, q, k⟩ =>
  ⟨H0, M0, M, ρ, XW, _, re, xo, q, fun b H1 qb e1 t1 => k _ H1 qb e1 t1⟩
theorem ew_and1 {w : WB} (h : PT X a (liftB (pm X T) E w)) : PW X (.BoolOp .And [a] pos) (liftB (pm X T) E w) := pw_and1 h
theorem ew_or1 {w : WB} (h : PT X a (liftB (pm X T) E w)) : PW X (.BoolOp .Or [a] pos) (liftB (pm X T) E w) := pw_or1 h
theorem ew_and {wa wb : WB} {rest : List Expr} (ha : PT X a (liftB (pm X T) E wa)) (hb : PW X (.BoolOp .And (b :: rest) pos) (liftB (pm X T) E wb)) : PW X (.BoolOp .And (a :: b :: rest) pos) (liftB (pm X T) E (wAnd wa wb)) :=
  PWimp (pw_and ha hb) fun σ H Q ⟨H0, M0, M, ρ, XW, Q3, re, xo, q, k⟩ => ⟨H0, M0, M, ρ, XW, _, re, xo, q, fun c H1 qc e1 t1 => by
    cases c with
    | true => exact ⟨H0, M0, M, ρ, XW, Q3, re.grow e1 t1, xo.grow e1, qc, fun b H2 qb e2 t2 => k b H2 qb (e1.trans e2) t2⟩
    | false => exact k false H1 qc e1 t1⟩
theorem ew_or {wa wb : WB} {rest : List Expr} (ha : PT X a (liftB (pm X T) E wa)) (hb : PW X (.BoolOp .Or (b :: rest) pos) (liftB (pm X T) E wb)) : PW X (.BoolOp .Or (a :: b :: rest) pos) (liftB (pm X T) E (wOr wa wb)) :=
  PWimp (pw_or ha hb) fun σ H Q ⟨H0, M0, M, ρ, XW, Q3, re, xo, q, k⟩ => ⟨H0, M0, M, ρ, XW, _, re, xo, q, fun c H1 qc e1 t1 => by
    cases c with
    | true => exact k true H1 qc e1 t1
    | false => exact ⟨H0, M0, M, ρ, XW, Q3, re.grow e1 t1, xo.grow e1, qc, fun b H2 qb e2 t2 => k b H2 qb (e1.trans e2) t2⟩⟩
theorem ev_one {op : BoolOp} {w : W} (h : PE X a (lift (pm X T) E w)) : PE X (.BoolOp op [a] pos) (lift (pm X T) E w) := pe_one h
theorem ev_and {wa wb : W} {rest : List Expr} (ha : PE X a (lift (pm X T) E wa)) (hb : PE X (.BoolOp .And (b :: rest) pos) (lift (pm X T) E wb)) : PE X (.BoolOp .And (a :: b :: rest) pos) (lift (pm X T) E (wAndV wa wb)) :=
  PEimp (pe_and ha hb) fun σ H Q ⟨H0, M0, M, ρ, XW, Q3, re, xo, q, k⟩ => ⟨H0, M0, M, ρ, XW, _, re, xo, q, fun r v H1 qr e1 t1 rr => by
    obtain ⟨c, e, qc⟩ := rr.bool qr
    refine ⟨c, e, ?_⟩
    cases c with
    | true => exact ⟨H0, M0, M, ρ, XW, Q3, re.grow e1 t1, xo.grow e1, qc, fun r' v' H2 q2 e2 t2 rr2 => k r' v' H2 q2 (e1.trans e2) t2 (rr2.back e1)⟩
    | false => exact k _ _ H1 qc e1 t1 (.bl false)⟩
theorem ev_or {wa wb : W} {rest : List Expr} (ha : PE X a (lift (pm X T) E wa)) (hb : PE X (.BoolOp .Or (b :: rest) pos) (lift (pm X T) E wb)) : PE X (.BoolOp .Or (a :: b :: rest) pos) (lift (pm X T) E (wOrV wa wb)) :=
  PEimp (pe_or ha hb) fun σ H Q ⟨H0, M0, M, ρ, XW, Q3, re, xo, q, k⟩ => ⟨H0, M0, M, ρ, XW, _, re, xo, q, fun r v H1 qr e1 t1 rr => by
    obtain ⟨c, e, qc⟩ := rr.bool qr
    refine ⟨c, e, ?_⟩
    cases c with
    | true => exact k _ _ H1 qc e1 t1 (.bl true)
    | false => exact ⟨H0, M0, M, ρ, XW, Q3, re.grow e1 t1, xo.grow e1, qc, fun r' v' H2 q2 e2 t2 rr2 => k r' v' H2 q2 (e1.trans e2) t2 (rr2.back e1)⟩⟩
theorem ev_not {w : W} (h : PE X a (lift (pm X T) E w)) : PE X (.UnaryOp .Not a pos) (lift (pm X T) E (wNotV w)) :=
  PEimp (pe_not h) fun σ H Q ⟨H0, M0, M, ρ, XW, Q3, re, xo, q, k⟩ => ⟨H0, M0, M, ρ, XW, _, re, xo, q, fun r v H1 qr e1 t1 rr => by
    obtain ⟨c, e, qc⟩ := rr.bool qr
    exact ⟨c, e, k _ _ H1 qc e1 t1 (.bl _)⟩⟩
theorem ev_if {c : Expr} {wc : WB} {wa wb : W} (hc : PT X c (liftB (pm X T) E wc)) (ha : PE X a (lift (pm X T) E wa)) (hb : PE X b (lift (pm X T) E wb)) : PE X (.IfExp c a b pos) (lift (pm X T) E (wIf wc wa wb)) :=
  PEimp (pe_ifExp hc ha hb) fun σ H Q ⟨H0, M0, M, ρ, XW, Q3, re, xo, q, k⟩ => ⟨H0, M0, M, ρ, XW, _, re, xo, q, fun c H1 qc e1 t1 => by
    have gr : ∀ {w : W}, w ρ Q3 XW → lift (pm X T) E w σ H1 Q := fun qw => ⟨H0, M0, M, ρ, XW, Q3, re.grow e1 t1, xo.grow e1, qw, fun r' v' H2 q2 e2 t2 rr2 => k r' v' H2 q2 (e1.trans e2) t2 (rr2.back e1)⟩
    cases c with
    | true => exact gr qc
    | false => exact gr qc⟩
end
end T3
set_option linter.all false
set_option maxRecDepth 100000
set_option maxHeartbeats 2000000
set_option Elab.async false
/-! T3: what the operators and the built-in functions give, tree by tree. -/
namespace T3
open L2 LamX PySem PyProof.Rows PySem.Spec

/-! ### looking into a value -/
section
variable {K : PySem.W.Frag} {M : Ad} {H : Hp} {v : V}
theorem WR.non (h : WR K M H v .none) : v = .non := by
  rcases h with h | ⟨p, vs, xs, _, e, _⟩ | ⟨p, vs, xs, _, e, _⟩
  · cases h; rfl
  · cases e
  · cases e
theorem WR.bool {b : Bool} (h : WR K M H v (.bool b)) : v = .bl b := by
  rcases h with h | ⟨p, vs, xs, _, e, _⟩ | ⟨p, vs, xs, _, e, _⟩
  · cases h; rfl
  · cases e
  · cases e
theorem WR.int {i : Int} (h : WR K M H v (.int i)) : v = .int i := by
  rcases h with h | ⟨p, vs, xs, _, e, _⟩ | ⟨p, vs, xs, _, e, _⟩
  · cases h; rfl
  · cases e
  · cases e
theorem WR.str {x : Str} (h : WR K M H v (.str x)) : v = .str x := by
  rcases h with h | ⟨p, vs, xs, _, e, _⟩ | ⟨p, vs, xs, _, e, _⟩
  · cases h; rfl
  · cases e
  · cases e
theorem WR.tup {xs : List PyData} (h : WR K M H v (.tuple xs)) : ∃ a vs, v = .ref a ∧ TupM K M H a vs ∧ DMs K M H vs xs := by
  rcases h with h | ⟨p, vs, xs, _, e, _⟩ | ⟨p, vs, xs, _, e, _⟩
  · cases h with
    | tup h r => exact ⟨_, _, rfl, h, r⟩
  · cases e
  · cases e
theorem WR.lst {xs : List PyData} (h : WR K M H v (.list xs)) : ∃ a vs, v = .ref a ∧ H a = some (.lst vs) ∧ DMs K M H vs xs := by
  rcases h with h | ⟨p, vs, ys, e1, e, e2, e3⟩ | ⟨p, vs, xs, _, e, _⟩
  · cases h with
    | lst h r => exact ⟨_, _, rfl, h.2, r⟩
  · cases e
    exact ⟨p, vs, e1, e2, e3⟩
  · cases e
theorem WR.dct {ps : List (PyData × PyData)} (h : WR K M H v (.dict ps)) : ∃ (kvs : List (Key × PyData)) (a : Addr) (kws : List (Key × V)), ps = dictD kvs ∧ v = .ref a ∧ H a = some (.dK kws) ∧ DKs K M H kws kvs := by
  rcases h with h | ⟨p, vs, ys, e1, e, e2, e3⟩ | ⟨p, kws, kvs, e1, e, e2, e3⟩
  · cases h with
    | dct m h r => exact ⟨_, _, _, rfl, rfl, h, r⟩
  · cases e
  · cases e
    exact ⟨_, _, _, rfl, e1, e2, e3⟩
mutual
theorem DM.dp : ∀ {d : PyData} {v : V}, d.canLay0 = true → DM K M H v d → Dp K H v d
  | _, _, _, .non => .non
  | _, _, _, .bl b => .bl b
  | _, _, _, .int i => .int i
  | _, _, _, .str x => .str x
  | _, _, c, .lst h r => .lst h.sq (DMs.dp (by simpa only [PyData.canLay0] using c) r)
  | _, _, c, .tup h r => .tup h.sq (DMs.dp (by simpa only [PyData.canLay0] using c) r)
  | _, _, c, .dct _ _ _ => by simp [PyData.canLay0] at c
theorem DMs.dp : ∀ {ds : List PyData} {vs : List V}, PyData.canLayAll0 ds = true → DMs K M H vs ds → DpAll K H vs ds
  | _, _, _, .nil => .nil
  | _, _, c, .cons h r => by
    rw [PyData.canLayAll0, Bool.and_eq_true] at c
    exact .cons (DM.dp c.1 h) (DMs.dp c.2 r)
end
theorem WR.dp {d : PyData} (c : d.canLay0 = true) (h : WR K M H v d) : Dp K H v d := by
  rcases h with h | ⟨p, vs, ys, rfl, rfl, e2, e3⟩ | ⟨p, vs, ys, rfl, rfl, e2, e3⟩
  · exact h.dp c
  · exact .lst (SqL.of e2) (DMs.dp (by simpa only [PyData.canLay0] using c) e3)
  · simp [PyData.canLay0] at c
end

/-! ### shaped data -/
def Sh (n : Nat) (d : PyData) : Prop := d.canLay0 = true ∧ d.depth ≤ n
theorem Sh.shaped {n : Nat} {d : PyData} (h : Sh n d) (hn : n ≤ 64) : SeqAt.shaped d = true := by
  unfold SeqAt.shaped
  rw [h.1, Bool.true_and]
  exact decide_eq_true (Nat.le_trans h.2 hn)
theorem Sh.mono {m n : Nat} {d : PyData} (h : Sh m d) (hn : m ≤ n) : Sh n d := ⟨h.1, Nat.le_trans h.2 hn⟩
theorem Sh.non {n : Nat} : Sh n .none := ⟨by simp [PyData.canLay0], by simp [PyData.depth]⟩
theorem Sh.bool {n : Nat} (b : Bool) : Sh n (.bool b) := ⟨by simp [PyData.canLay0], by simp [PyData.depth]⟩
theorem Sh.int {n : Nat} (i : Int) : Sh n (.int i) := ⟨by simp [PyData.canLay0], by simp [PyData.depth]⟩
theorem Sh.str {n : Nat} {x : Str} (h : PyData.strOk x = true) : Sh n (.str x) := ⟨by simpa [PyData.canLay0] using h, by simp [PyData.depth]⟩
theorem shAll {n : Nat} : ∀ {ds : List PyData}, (∀ d ∈ ds, Sh n d) → PyData.canLayAll0 ds = true ∧ PyData.depthAll ds ≤ n
  | [], _ => ⟨by simp [PyData.canLayAll0], by simp [PyData.depthAll]⟩
  | d :: ds, h => by
    have h1 := h d List.mem_cons_self
    have h2 := shAll (ds := ds) fun e he => h e (List.mem_cons_of_mem _ he)
    refine ⟨?_, ?_⟩
    · rw [PyData.canLayAll0, h1.1, h2.1]; rfl
    · simp only [PyData.depthAll]
      have := h1.2
      have := h2.2
      omega
theorem Sh.tup {n : Nat} {ds : List PyData} (h : ∀ d ∈ ds, Sh n d) : Sh (n + 1) (.tuple ds) := by
  have q := shAll h
  exact ⟨by simpa only [PyData.canLay0] using q.1, by simp only [PyData.depth]; have := q.2; omega⟩
theorem Sh.lst {n : Nat} {ds : List PyData} (h : ∀ d ∈ ds, Sh n d) : Sh (n + 1) (.list ds) := by
  have q := shAll h
  exact ⟨by simpa only [PyData.canLay0] using q.1, by simp only [PyData.depth]; have := q.2; omega⟩

/-! ### operators -/
def addD : Op2 := fun x y k => match x, y with
  | .int i, .int j => k (.d (.int (i + j)))
  | .tuple a, .tuple b => a.length + b.length ≤ sizeLine ∧ k (.d (.tuple (a ++ b)))
  | .list a, .list b => a.length + b.length ≤ sizeLine ∧ k (.fr (a ++ b))
  | .str a, .str b => a.length + b.length ≤ sizeLine ∧ k (.d (.str (a ++ b)))
  | _, _ => False
def subD : Op2 := fun x y k => match x, y with
  | .int i, .int j => k (.d (.int (i - j)))
  | _, _ => False
def mulD : Op2 := fun x y k => match x, y with
  | .int i, .int j => (CMul i j ∨ CMulW i j) ∧ k (.d (.int (i * j)))
  | .list a, .int j => (-(2 ^ 63) ≤ j ∧ j < 2 ^ 63 ∧ a.length * j.toNat ≤ sizeLine) ∧ k (.fr (List.replicate j.toNat a).flatten)
  | .tuple a, .int j => (a ≠ [] ∧ 2 ≤ j ∧ j ≤ 1000 ∧ a.length ≤ 1000) ∧ k (.d (.tuple (List.replicate j.toNat a).flatten))
  | _, _ => False
def fdivD : Op2 := fun x y k => match x, y with
  | .int i, .int j => (CDiv i j ∨ CDivW i j) ∧ k (.d (.int (i / j)))
  | _, _ => False
def modD : Op2 := fun x y k => match x, y with
  | .int i, .int j => 0 < j ∧ k (.d (.int (i % j)))
  | _, _ => False
def powD : Op2 := fun x y k => match x, y with
  | .int i, .int j => CPow i j ∧ k (.d (.int (i ^ j.toNat)))
  | _, _ => False
def ltD : Op2 := fun x y k => match x, y with
  | .int i, .int j => k (.d (.bool (decide (i < j))))
  | _, _ => False
def leD : Op2 := fun x y k => match x, y with
  | .int i, .int j => k (.d (.bool (decide (i ≤ j))))
  | _, _ => False
def gtD : Op2 := fun x y k => match x, y with
  | .int i, .int j => k (.d (.bool (decide (j < i))))
  | _, _ => False
def geD : Op2 := fun x y k => match x, y with
  | .int i, .int j => k (.d (.bool (decide (j ≤ i))))
  | _, _ => False
def eqD : Op2 := fun x y k => SeqAt.shaped x = true ∧ SeqAt.shaped y = true ∧ k (.d (.bool (PyData.eqv x y)))
def neD : Op2 := fun x y k => SeqAt.shaped x = true ∧ SeqAt.shaped y = true ∧ k (.d (.bool (!PyData.eqv x y)))
def isND : Op2 := fun x y k => match y with
  | .none => k (.d (.bool (match x with | .none => true | _ => false)))
  | _ => False
def isnotND : Op2 := fun x y k => match y with
  | .none => k (.d (.bool (match x with | .none => false | _ => true)))
  | _ => False
/-- in: within the items of a list or tuple -/
def inD : Op2 := fun x y k => match y with
  | .list ys => SeqAt.shaped x = true ∧ SeqAt.shaped y = true ∧ k (.d (.bool (ys.any fun z => PyData.eqv z x)))
  | _ => False
def notInD : Op2 := fun x y k => match y with
  | .list ys => SeqAt.shaped x = true ∧ SeqAt.shaped y = true ∧ k (.d (.bool (!ys.any fun z => PyData.eqv z x)))
  | _ => False
def ixD : Op2 := fun x y k => match x, y with
  | .list xs, .int i => ∃ v, atI xs i = some v ∧ k (.d v)
  | .tuple xs, .int i => ∃ v, atI xs i = some v ∧ k (.d v)
  | _, _ => False

theorem OpRimp {X : Cx} {f : Value → Value → Sem Value} {r r' : R2} (h : OpR X f r) (i : ∀ x y H Q, r' x y H Q → r x y H Q) : OpR X f r' := fun pins s σ H x y v u Q I rx ry q => h pins s σ H x y v u Q I rx ry (i _ _ _ _ q)
theorem IxRimp {X : Cx} {r r' : R2} (h : IxR X r) (i : ∀ x y H Q, r' x y H Q → r x y H Q) : IxR X r' := fun a b pins s σ H x y v u Q I rx ry q => h a b pins s σ H x y v u Q I rx ry (i _ _ _ _ q)
theorem CallRimp {X : Cx} {f : Value} {r r' : List V → Hp → VK → Prop} (h : CallR X f r) (i : ∀ vs H Q, r' vs H Q → r vs H Q) : CallR X f r' := fun pins s σ H xs us Q I rx q => h pins s σ H xs us Q I rx (i _ _ _ q)
section
variable {X : Cx} {T : List (Addr × Str)}
theorem op_addD : OpR X (binaryOp .Add) (rD (pm X T) addD) := OpRimp (op_add.or (op_catA.or (op_cat.or op_add_str))) fun x y H Q h => by
  obtain ⟨M, d, e, Q3, hm, ht, hd, he, q, k⟩ := h
  unfold addD at q
  split at q
  · exact .inl ⟨_, _, hd.int, he.int, k _ _ _ q (ExtN.refl H) ht (.int _)⟩
  · obtain ⟨a, vs, e1, l1, r1⟩ := hd.tup
    obtain ⟨b, ws, e2, l2, r2⟩ := he.tup
    refine .inr (.inl ⟨a, b, vs, ws, e1, e2, l1.sq, l2.sq, by rw [r1.length, r2.length]; exact q.1, fun z => ?_, fun _ z => ?_, fun _ _ p np => ?_⟩)
    · subst z
      cases r1
      exact k _ _ _ q.2 (ExtN.refl H) ht (.tup l2 r2)
    · subst z
      cases r2
      exact k _ _ _ q.2 (ExtN.refl H) ht (.tup l1 (by rw [List.append_nil]; exact r1))
    · exact k _ _ _ q.2 (ext_new np) (tabs_new ht np) (tup_new hm (ExtN.refl H) np (r1.append r2))
  · obtain ⟨a, vs, e1, l1, r1⟩ := hd.lst
    obtain ⟨b, ws, e2, l2, r2⟩ := he.lst
    exact .inr (.inr (.inl ⟨a, b, vs, ws, e1, e2, l1, l2, by rw [r1.length, r2.length]; exact q.1, fun p np => k _ _ _ q.2 (ext_new np) (tabs_new ht np) (lst_new (ExtN.refl H) np (r1.append r2))⟩))
  · exact .inr (.inr (.inr ⟨_, _, hd.str, he.str, q.1, k _ _ _ q.2 (ExtN.refl H) ht (.str _)⟩))
  · exact q.elim
theorem op_subD : OpR X (binaryOp .Sub) (rD (pm X T) subD) := OpRimp op_sub fun x y H Q h => by
  obtain ⟨M, d, e, Q3, hm, ht, hd, he, q, k⟩ := h
  unfold subD at q
  split at q
  · exact ⟨_, _, hd.int, he.int, k _ _ _ q (ExtN.refl H) ht (.int _)⟩
  · exact q.elim
theorem DMs.rep {K : PySem.W.Frag} {M : Ad} {H : Hp} {vs : List V} {xs : List PyData} (h : DMs K M H vs xs) : ∀ n : Nat, DMs K M H (List.replicate n vs).flatten (List.replicate n xs).flatten
  | 0 => .nil
  | n + 1 => by
    rw [List.replicate_succ, List.replicate_succ, List.flatten_cons, List.flatten_cons]
    exact h.append (DMs.rep h n)
theorem op_mulD : OpR X (binaryOp .Mult) (rD (pm X T) mulD) := OpRimp (op_mul.or (op_mulW.or (op_rep.or op_repT))) fun x y H Q h => by
  obtain ⟨M, d, e, Q3, hm, ht, hd, he, q, k⟩ := h
  unfold mulD at q
  split at q
  · have w := k _ _ _ q.2 (ExtN.refl H) ht (.int _)
    rcases q.1 with c | c
    · exact .inl ⟨_, _, hd.int, he.int, c, w⟩
    · exact .inr (.inl ⟨_, _, hd.int, he.int, c, w⟩)
  · obtain ⟨a, vs, e1, l1, r1⟩ := hd.lst
    obtain ⟨⟨c1, c2, c3⟩, q⟩ := q
    refine .inr (.inr (.inl ⟨a, _, vs, e1, he.int, l1, c1, c2, by rw [r1.length]; exact c3, fun p np => ?_⟩))
    exact k _ _ _ q (ext_new np) (tabs_new ht np) (lst_new (ExtN.refl H) np (r1.rep _))
  · obtain ⟨a, vs, e1, l1, r1⟩ := hd.tup
    obtain ⟨⟨c1, c2, c3, c4⟩, q⟩ := q
    refine .inr (.inr (.inr ⟨a, _, vs, e1, he.int, l1.sq, fun z => ?_, c2, c3, by rw [r1.length]; exact c4, fun p np => ?_⟩))
    · subst z
      cases r1
      exact c1 rfl
    · exact k _ _ _ q (ext_new np) (tabs_new ht np) (tup_new hm (ExtN.refl H) np (r1.rep _))
  · exact q.elim
theorem op_fdivD : OpR X (binaryOp .FloorDiv) (rD (pm X T) fdivD) := OpRimp (op_fdiv.or op_fdivW) fun x y H Q h => by
  obtain ⟨M, d, e, Q3, hm, ht, hd, he, q, k⟩ := h
  unfold fdivD at q
  split at q
  · have w := k _ _ _ q.2 (ExtN.refl H) ht (.int _)
    rcases q.1 with c | c
    · exact .inl ⟨_, _, hd.int, he.int, c, w⟩
    · exact .inr ⟨_, _, hd.int, he.int, c, w⟩
  · exact q.elim
theorem op_modD : OpR X (binaryOp .Mod) (rD (pm X T) modD) := OpRimp op_mod fun x y H Q h => by
  obtain ⟨M, d, e, Q3, hm, ht, hd, he, q, k⟩ := h
  unfold modD at q
  split at q
  · exact ⟨_, _, hd.int, he.int, q.1, k _ _ _ q.2 (ExtN.refl H) ht (.int _)⟩
  · exact q.elim
theorem op_powD : OpR X (binaryOp .Pow) (rD (pm X T) powD) := OpRimp op_pow fun x y H Q h => by
  obtain ⟨M, d, e, Q3, hm, ht, hd, he, q, k⟩ := h
  unfold powD at q
  split at q
  · exact ⟨_, _, hd.int, he.int, q.1, k _ _ _ q.2 (ExtN.refl H) ht (.int _)⟩
  · exact q.elim
theorem op_ltD : OpR X (compareOp .Lt) (rD (pm X T) ltD) := OpRimp op_lt fun x y H Q h => by
  obtain ⟨M, d, e, Q3, hm, ht, hd, he, q, k⟩ := h
  unfold ltD at q
  split at q
  · exact ⟨_, _, hd.int, he.int, k _ _ _ q (ExtN.refl H) ht (.bl _)⟩
  · exact q.elim
theorem op_leD : OpR X (compareOp .LtE) (rD (pm X T) leD) := OpRimp op_le fun x y H Q h => by
  obtain ⟨M, d, e, Q3, hm, ht, hd, he, q, k⟩ := h
  unfold leD at q
  split at q
  · exact ⟨_, _, hd.int, he.int, k _ _ _ q (ExtN.refl H) ht (.bl _)⟩
  · exact q.elim
theorem op_gtD : OpR X (compareOp .Gt) (rD (pm X T) gtD) := OpRimp op_gt fun x y H Q h => by
  obtain ⟨M, d, e, Q3, hm, ht, hd, he, q, k⟩ := h
  unfold gtD at q
  split at q
  · exact ⟨_, _, hd.int, he.int, k _ _ _ q (ExtN.refl H) ht (.bl _)⟩
  · exact q.elim
theorem op_geD : OpR X (compareOp .GtE) (rD (pm X T) geD) := OpRimp op_ge fun x y H Q h => by
  obtain ⟨M, d, e, Q3, hm, ht, hd, he, q, k⟩ := h
  unfold geD at q
  split at q
  · exact ⟨_, _, hd.int, he.int, k _ _ _ q (ExtN.refl H) ht (.bl _)⟩
  · exact q.elim
theorem lay_of_shaped {d : PyData} (h : SeqAt.shaped d = true) : d.canLay0 = true := by
  unfold SeqAt.shaped at h
  rw [Bool.and_eq_true] at h
  exact h.1
theorem op_eqT (hu : X.A.units + 64 < cLine) : OpR X (compareOp .Eq) (rD (pm X T) eqD) := OpRimp (op_eqD hu) fun x y H Q h => by
  obtain ⟨M, d, e, Q3, hm, ht, hd, he, ⟨s1, s2, q⟩, k⟩ := h
  exact ⟨d, e, hd.dp (lay_of_shaped s1), he.dp (lay_of_shaped s2), s1, s2, k _ _ _ q (ExtN.refl H) ht (.bl _)⟩
theorem op_neT (hu : X.A.units + 64 < cLine) : OpR X (compareOp .NotEq) (rD (pm X T) neD) := OpRimp (op_neD hu) fun x y H Q h => by
  obtain ⟨M, d, e, Q3, hm, ht, hd, he, ⟨s1, s2, q⟩, k⟩ := h
  exact ⟨d, e, hd.dp (lay_of_shaped s1), he.dp (lay_of_shaped s2), s1, s2, k _ _ _ q (ExtN.refl H) ht (.bl _)⟩
theorem op_isND : OpR X (compareOp .Is) (rD (pm X T) isND) := OpRimp op_isN fun x y H Q h => by
  obtain ⟨M, d, e, Q3, hm, ht, hd, he, q, k⟩ := h
  unfold isND at q
  split at q
  · refine ⟨he.non, ?_⟩
    cases d with
    | none =>
      cases hd.non
      exact k _ _ _ q (ExtN.refl H) ht (.bl _)
    | bool b => cases hd.bool; exact k _ _ _ q (ExtN.refl H) ht (.bl _)
    | int b => cases hd.int; exact k _ _ _ q (ExtN.refl H) ht (.bl _)
    | str b => cases hd.str; exact k _ _ _ q (ExtN.refl H) ht (.bl _)
    | list b => obtain ⟨a, vs, e1, _⟩ := hd.lst; cases e1; exact k _ _ _ q (ExtN.refl H) ht (.bl _)
    | tuple b => obtain ⟨a, vs, e1, _⟩ := hd.tup; cases e1; exact k _ _ _ q (ExtN.refl H) ht (.bl _)
    | dict b => obtain ⟨_, a, _, _, e1, _⟩ := hd.dct; cases e1; exact k _ _ _ q (ExtN.refl H) ht (.bl _)
  · exact q.elim
theorem op_isnotND : OpR X (compareOp .IsNot) (rD (pm X T) isnotND) := OpRimp op_notN fun x y H Q h => by
  obtain ⟨M, d, e, Q3, hm, ht, hd, he, q, k⟩ := h
  unfold isnotND at q
  split at q
  · refine ⟨he.non, ?_⟩
    cases d with
    | none =>
      cases hd.non
      exact k _ _ _ q (ExtN.refl H) ht (.bl _)
    | bool b => cases hd.bool; exact k _ _ _ q (ExtN.refl H) ht (.bl _)
    | int b => cases hd.int; exact k _ _ _ q (ExtN.refl H) ht (.bl _)
    | str b => cases hd.str; exact k _ _ _ q (ExtN.refl H) ht (.bl _)
    | list b => obtain ⟨a, vs, e1, _⟩ := hd.lst; cases e1; exact k _ _ _ q (ExtN.refl H) ht (.bl _)
    | tuple b => obtain ⟨a, vs, e1, _⟩ := hd.tup; cases e1; exact k _ _ _ q (ExtN.refl H) ht (.bl _)
    | dict b => obtain ⟨_, a, _, _, e1, _⟩ := hd.dct; cases e1; exact k _ _ _ q (ExtN.refl H) ht (.bl _)
  · exact q.elim
theorem op_inT (hu : X.A.units + 65 < cLine) : OpR X (compareOp .In) (rD (pm X T) inD) := OpRimp (op_inD hu) fun x y H Q h => by
  obtain ⟨M, d, e, Q3, hm, ht, hd, he, q, k⟩ := h
  unfold inD at q
  split at q
  · obtain ⟨s1, s2, q⟩ := q
    exact ⟨d, _, hd.dp (lay_of_shaped s1), he.dp (lay_of_shaped s2), s1, s2, k _ _ _ q (ExtN.refl H) ht (.bl _)⟩
  · exact q.elim
theorem op_notInT (hu : X.A.units + 65 < cLine) : OpR X (compareOp .NotIn) (rD (pm X T) notInD) := OpRimp (op_notInD hu) fun x y H Q h => by
  obtain ⟨M, d, e, Q3, hm, ht, hd, he, q, k⟩ := h
  unfold notInD at q
  split at q
  · obtain ⟨s1, s2, q⟩ := q
    exact ⟨d, _, hd.dp (lay_of_shaped s1), he.dp (lay_of_shaped s2), s1, s2, k _ _ _ q (ExtN.refl H) ht (.bl _)⟩
  · exact q.elim
theorem DMs.atI {K : PySem.W.Frag} {M : Ad} {H : Hp} {vs : List V} {xs : List PyData} {i : Int} {x : PyData} (h : DMs K M H vs xs) (e : L2.atI xs i = some x) : ∃ v, L2.atI vs i = some v ∧ DM K M H v x := by
  unfold L2.atI at e ⊢
  rw [h.length]
  cases q : ixN xs.length i with
  | none => rw [q] at e; cases e
  | some j =>
    rw [q] at e
    exact h.at e
theorem ix_D : IxR X (rD (pm X T) ixD) := IxRimp (ix_list.or ix_tup) fun x y H Q h => by
  obtain ⟨M, d, e, Q3, hm, ht, hd, he, q, k⟩ := h
  unfold ixD at q
  split at q
  · obtain ⟨a, vs, e1, l1, r1⟩ := hd.lst
    obtain ⟨v, ev, q⟩ := q
    obtain ⟨u, h1, h2⟩ := r1.atI ev
    exact .inl ⟨a, vs, _, u, e1, he.int, SqL.of l1, h1, k _ _ _ q (ExtN.refl H) ht h2⟩
  · obtain ⟨a, vs, e1, l1, r1⟩ := hd.tup
    obtain ⟨v, ev, q⟩ := q
    obtain ⟨u, h1, h2⟩ := r1.atI ev
    exact .inr ⟨a, vs, _, u, e1, he.int, l1.sq, h1, k _ _ _ q (ExtN.refl H) ht h2⟩
  · exact q.elim
end
end T3
set_option linter.all false
set_option maxRecDepth 100000
set_option maxHeartbeats 2000000
set_option Elab.async false
/-! T4: built-in functions, isinstance, slices, chains, tree by tree. -/
namespace T3
open L2 LamX PySem PyProof.Rows PySem.Spec

/-! ### built-in functions -/
def lenD : OpL := fun xs k => match xs with
  | [.list a] => k (.d (.int a.length))
  | [.tuple a] => k (.d (.int a.length))
  | [.str x] => x.length ≤ sizeLine ∧ k (.d (.int x.length))
  | _ => False
def absD : OpL := fun xs k => match xs with
  | [.int i] => k (.d (.int (if i < 0 then -i else i)))
  | _ => False
def intD : OpL := fun xs k => match xs with
  | [.int i] => k (.d (.int i))
  | [.bool b] => k (.d (.int (if b then 1 else 0)))
  | _ => False
def min2D : OpL := fun xs k => match xs with
  | [.int i, .int j] => k (.d (.int (if j < i then j else i)))
  | _ => False
def max2D : OpL := fun xs k => match xs with
  | [.int i, .int j] => k (.d (.int (if j > i then j else i)))
  | _ => False
def sumD : OpL := fun xs k => match xs with
  | [.list a] => ∃ ns : List Int, a = ns.map PyData.int ∧ k (.d (.int ns.sum))
  | _ => False
def minD : OpL := fun xs k => match xs with
  | [.list a] => ∃ ns : List Int, a = ns.map PyData.int ∧ 0 < ns.length ∧ ∀ m, m ∈ ns → (∀ y, y ∈ ns → m ≤ y) → k (.d (.int m))
  | _ => False
def maxD : OpL := fun xs k => match xs with
  | [.list a] => ∃ ns : List Int, a = ns.map PyData.int ∧ 0 < ns.length ∧ ∀ m, m ∈ ns → (∀ y, y ∈ ns → y ≤ m) → k (.d (.int m))
  | _ => False
def allD : OpL := fun xs k => match xs with
  | [.list a] => ∃ bs : List Bool, a = bs.map PyData.bool ∧ k (.d (.bool (bs.all id)))
  | _ => False
def anyD : OpL := fun xs k => match xs with
  | [.list a] => ∃ bs : List Bool, a = bs.map PyData.bool ∧ k (.d (.bool (bs.any id)))
  | _ => False
def listD : OpL := fun xs k => match xs with
  | [.list a] => k (.fr a)
  | [.tuple a] => k (.fr a)
  | _ => False
def tupleD : OpL := fun xs k => match xs with
  | [.list a] => k (.d (.tuple a))
  | [.tuple a] => k (.d (.tuple a))
  | _ => False
section
variable {K : PySem.W.Frag} {M : Ad} {H : Hp}
theorem one_of {vs : List V} {x : PyData} (h : Paired (WR K M H) vs [x]) : ∃ v, vs = [v] ∧ WR K M H v x := by
  cases h with
  | cons h r => cases r; exact ⟨_, rfl, h⟩
theorem two_of {vs : List V} {x y : PyData} (h : Paired (WR K M H) vs [x, y]) : ∃ v w, vs = [v, w] ∧ WR K M H v x ∧ WR K M H w y := by
  cases h with
  | cons h r => cases r with
    | cons g r => cases r; exact ⟨_, _, rfl, h, g⟩
theorem DMs.ints : ∀ {ns : List Int} {vs : List V}, DMs K M H vs (ns.map PyData.int) → vs = ns.map V.int
  | [], _, .nil => rfl
  | n :: ns, _, .cons h r => by cases h; rw [DMs.ints r]; rfl
theorem DMs.bools : ∀ {bs : List Bool} {vs : List V}, DMs K M H vs (bs.map PyData.bool) → vs = bs.map V.bl
  | [], _, .nil => rfl
  | n :: ns, _, .cons h r => by cases h; rw [DMs.bools r]; rfl
end
section
variable {X : Cx} {T : List (Addr × Str)}
theorem cr_len : CallR X (.builtin "len") (rDs (pm X T) lenD) := CallRimp (call_len_seq.or call_len_str) fun vs H Q h => by
  obtain ⟨M, ds, Q3, hm, ht, hp, q, k⟩ := h
  unfold lenD at q
  split at q
  · obtain ⟨v, rfl, h⟩ := one_of hp
    obtain ⟨a, ws, rfl, l, r⟩ := h.lst
    refine .inl ⟨a, ws, rfl, .inl (SqL.of l), ?_⟩
    rw [r.length]
    exact k _ _ _ q (ExtN.refl H) ht (.int _)
  · obtain ⟨v, rfl, h⟩ := one_of hp
    obtain ⟨a, ws, rfl, l, r⟩ := h.tup
    refine .inl ⟨a, ws, rfl, .inr l.sq, ?_⟩
    rw [r.length]
    exact k _ _ _ q (ExtN.refl H) ht (.int _)
  · obtain ⟨v, rfl, h⟩ := one_of hp
    cases h.str
    exact .inr ⟨_, rfl, q.1, k _ _ _ q.2 (ExtN.refl H) ht (.int _)⟩
  · exact q.elim
theorem cr_abs : CallR X (.builtin "abs") (rDs (pm X T) absD) := CallRimp call_abs fun vs H Q h => by
  obtain ⟨M, ds, Q3, hm, ht, hp, q, k⟩ := h
  unfold absD at q
  split at q
  · obtain ⟨v, rfl, h⟩ := one_of hp
    cases h.int
    exact ⟨_, rfl, k _ _ _ q (ExtN.refl H) ht (.int _)⟩
  · exact q.elim
theorem cr_int : CallR X (.type "int") (rDs (pm X T) intD) := CallRimp call_int1 fun vs H Q h => by
  obtain ⟨M, ds, Q3, hm, ht, hp, q, k⟩ := h
  unfold intD at q
  split at q
  · obtain ⟨v, rfl, h⟩ := one_of hp
    cases h.int
    exact .inl ⟨_, rfl, k _ _ _ q (ExtN.refl H) ht (.int _)⟩
  · obtain ⟨v, rfl, h⟩ := one_of hp
    cases h.bool
    exact .inr ⟨_, rfl, k _ _ _ q (ExtN.refl H) ht (.int _)⟩
  · exact q.elim
theorem cr_min2 (hc : X.calm = true) : CallR X (.builtin "min") (rDs (pm X T) min2D) := CallRimp (call_min2 hc) fun vs H Q h => by
  obtain ⟨M, ds, Q3, hm, ht, hp, q, k⟩ := h
  unfold min2D at q
  split at q
  · obtain ⟨v, w, rfl, h, g⟩ := two_of hp
    cases h.int
    cases g.int
    exact ⟨_, _, rfl, k _ _ _ q (ExtN.refl H) ht (.int _)⟩
  · exact q.elim
theorem cr_max2 (hc : X.calm = true) : CallR X (.builtin "max") (rDs (pm X T) max2D) := CallRimp (call_max2 hc) fun vs H Q h => by
  obtain ⟨M, ds, Q3, hm, ht, hp, q, k⟩ := h
  unfold max2D at q
  split at q
  · obtain ⟨v, w, rfl, h, g⟩ := two_of hp
    cases h.int
    cases g.int
    exact ⟨_, _, rfl, k _ _ _ q (ExtN.refl H) ht (.int _)⟩
  · exact q.elim
theorem cr_sumD (hc : X.calm = true) : CallR X (.builtin "sum") (rDs (pm X T) sumD) := CallRimp (cr_sum hc) fun vs H Q h => by
  obtain ⟨M, ds, Q3, hm, ht, hp, q, k⟩ := h
  unfold sumD at q
  split at q
  · obtain ⟨v, rfl, h⟩ := one_of hp
    obtain ⟨a, ws, rfl, l, r⟩ := h.lst
    obtain ⟨ns, rfl, q⟩ := q
    cases r.ints
    exact ⟨a, ns, rfl, SqL.of l, k _ _ _ q (ExtN.refl H) ht (.int _)⟩
  · exact q.elim
theorem cr_minD (hc : X.calm = true) : CallR X (.builtin "min") (rDs (pm X T) minD) := CallRimp (cr_min hc) fun vs H Q h => by
  obtain ⟨M, ds, Q3, hm, ht, hp, q, k⟩ := h
  unfold minD at q
  split at q
  · obtain ⟨v, rfl, h⟩ := one_of hp
    obtain ⟨a, ws, rfl, l, r⟩ := h.lst
    obtain ⟨ns, rfl, hn, q⟩ := q
    cases r.ints
    exact ⟨a, ns, rfl, SqL.of l, hn, fun m h1 h2 => k _ _ _ (q m h1 h2) (ExtN.refl H) ht (.int _)⟩
  · exact q.elim
theorem cr_maxD (hc : X.calm = true) : CallR X (.builtin "max") (rDs (pm X T) maxD) := CallRimp (cr_max hc) fun vs H Q h => by
  obtain ⟨M, ds, Q3, hm, ht, hp, q, k⟩ := h
  unfold maxD at q
  split at q
  · obtain ⟨v, rfl, h⟩ := one_of hp
    obtain ⟨a, ws, rfl, l, r⟩ := h.lst
    obtain ⟨ns, rfl, hn, q⟩ := q
    cases r.ints
    exact ⟨a, ns, rfl, SqL.of l, hn, fun m h1 h2 => k _ _ _ (q m h1 h2) (ExtN.refl H) ht (.int _)⟩
  · exact q.elim
theorem cr_allD (hc : X.calm = true) : CallR X (.builtin "all") (rDs (pm X T) allD) := CallRimp (cr_all hc) fun vs H Q h => by
  obtain ⟨M, ds, Q3, hm, ht, hp, q, k⟩ := h
  unfold allD at q
  split at q
  · obtain ⟨v, rfl, h⟩ := one_of hp
    obtain ⟨a, ws, rfl, l, r⟩ := h.lst
    obtain ⟨ns, rfl, q⟩ := q
    cases r.bools
    exact ⟨a, ns, rfl, SqL.of l, k _ _ _ q (ExtN.refl H) ht (.bl _)⟩
  · exact q.elim
theorem cr_anyD (hc : X.calm = true) : CallR X (.builtin "any") (rDs (pm X T) anyD) := CallRimp (cr_any hc) fun vs H Q h => by
  obtain ⟨M, ds, Q3, hm, ht, hp, q, k⟩ := h
  unfold anyD at q
  split at q
  · obtain ⟨v, rfl, h⟩ := one_of hp
    obtain ⟨a, ws, rfl, l, r⟩ := h.lst
    obtain ⟨ns, rfl, q⟩ := q
    cases r.bools
    exact ⟨a, ns, rfl, SqL.of l, k _ _ _ q (ExtN.refl H) ht (.bl _)⟩
  · exact q.elim
theorem cr_list : CallR X (.type "list") (rDs (pm X T) listD) := CallRimp call_list_of fun vs H Q h => by
  obtain ⟨M, ds, Q3, hm, ht, hp, q, k⟩ := h
  unfold listD at q
  split at q
  · obtain ⟨v, rfl, h⟩ := one_of hp
    obtain ⟨a, ws, rfl, l, r⟩ := h.lst
    exact ⟨a, ws, rfl, .inl (SqL.of l), fun p np => k _ _ _ q (ext_new np) (tabs_new ht np) (lst_new (ExtN.refl H) np r)⟩
  · obtain ⟨v, rfl, h⟩ := one_of hp
    obtain ⟨a, ws, rfl, l, r⟩ := h.tup
    exact ⟨a, ws, rfl, .inr l.sq, fun p np => k _ _ _ q (ext_new np) (tabs_new ht np) (lst_new (ExtN.refl H) np r)⟩
  · exact q.elim
theorem cr_tuple : CallR X (.type "tuple") (rDs (pm X T) tupleD) := CallRimp call_tuple_of fun vs H Q h => by
  obtain ⟨M, ds, Q3, hm, ht, hp, q, k⟩ := h
  unfold tupleD at q
  split at q
  · obtain ⟨v, rfl, h⟩ := one_of hp
    obtain ⟨a, ws, rfl, l, r⟩ := h.lst
    exact ⟨a, ws, rfl, .inl ⟨SqL.of l, fun p np => k _ _ _ q (ext_new np) (tabs_new ht np) (tup_new hm (ExtN.refl H) np r)⟩⟩
  · obtain ⟨v, rfl, h⟩ := one_of hp
    obtain ⟨a, ws, rfl, l, r⟩ := h.tup
    exact ⟨a, ws, rfl, .inr ⟨l.sq, k _ _ _ q (ExtN.refl H) ht (.tup l r)⟩⟩
  · exact q.elim
end

/-! ### isinstance -/
def tyD : PyData → String
  | .none => "NoneType" | .bool _ => "bool" | .int _ => "int" | .str _ => "str" | .list _ => "list" | .tuple _ => "tuple" | .dict _ => "dict"
def isInt : PyData → Bool
  | .int _ => true | .bool _ => true | _ => false
def isBool : PyData → Bool
  | .bool _ => true | _ => false
def isStr : PyData → Bool
  | .str _ => true | _ => false
def isTup : PyData → Bool
  | .tuple _ => true | _ => false
def isLst : PyData → Bool
  | .list _ => true | _ => false
def isDct : PyData → Bool
  | .dict _ => true | _ => false
theorem kit_int (x : PyData) : kitB (tyD x) "int" = some (isInt x) := by
  cases x
  · exact (by decide +kernel : kitB "NoneType" "int" = some false)
  · exact (by decide +kernel : kitB "bool" "int" = some true)
  · exact (by decide +kernel : kitB "int" "int" = some true)
  · exact (by decide +kernel : kitB "str" "int" = some false)
  · exact (by decide +kernel : kitB "list" "int" = some false)
  · exact (by decide +kernel : kitB "tuple" "int" = some false)
  · exact (by decide +kernel : kitB "dict" "int" = some false)
theorem kit_bool (x : PyData) : kitB (tyD x) "bool" = some (isBool x) := by
  cases x
  · exact (by decide +kernel : kitB "NoneType" "bool" = some false)
  · exact (by decide +kernel : kitB "bool" "bool" = some true)
  · exact (by decide +kernel : kitB "int" "bool" = some false)
  · exact (by decide +kernel : kitB "str" "bool" = some false)
  · exact (by decide +kernel : kitB "list" "bool" = some false)
  · exact (by decide +kernel : kitB "tuple" "bool" = some false)
  · exact (by decide +kernel : kitB "dict" "bool" = some false)
theorem kit_str (x : PyData) : kitB (tyD x) "str" = some (isStr x) := by
  cases x
  · exact (by decide +kernel : kitB "NoneType" "str" = some false)
  · exact (by decide +kernel : kitB "bool" "str" = some false)
  · exact (by decide +kernel : kitB "int" "str" = some false)
  · exact (by decide +kernel : kitB "str" "str" = some true)
  · exact (by decide +kernel : kitB "list" "str" = some false)
  · exact (by decide +kernel : kitB "tuple" "str" = some false)
  · exact (by decide +kernel : kitB "dict" "str" = some false)
theorem kit_tup (x : PyData) : kitB (tyD x) "tuple" = some (isTup x) := by
  cases x
  · exact (by decide +kernel : kitB "NoneType" "tuple" = some false)
  · exact (by decide +kernel : kitB "bool" "tuple" = some false)
  · exact (by decide +kernel : kitB "int" "tuple" = some false)
  · exact (by decide +kernel : kitB "str" "tuple" = some false)
  · exact (by decide +kernel : kitB "list" "tuple" = some false)
  · exact (by decide +kernel : kitB "tuple" "tuple" = some true)
  · exact (by decide +kernel : kitB "dict" "tuple" = some false)
theorem kit_lst (x : PyData) : kitB (tyD x) "list" = some (isLst x) := by
  cases x
  · exact (by decide +kernel : kitB "NoneType" "list" = some false)
  · exact (by decide +kernel : kitB "bool" "list" = some false)
  · exact (by decide +kernel : kitB "int" "list" = some false)
  · exact (by decide +kernel : kitB "str" "list" = some false)
  · exact (by decide +kernel : kitB "list" "list" = some true)
  · exact (by decide +kernel : kitB "tuple" "list" = some false)
  · exact (by decide +kernel : kitB "dict" "list" = some false)
theorem kit_dct (x : PyData) : kitB (tyD x) "dict" = some (isDct x) := by
  cases x
  · exact (by decide +kernel : kitB "NoneType" "dict" = some false)
  · exact (by decide +kernel : kitB "bool" "dict" = some false)
  · exact (by decide +kernel : kitB "int" "dict" = some false)
  · exact (by decide +kernel : kitB "str" "dict" = some false)
  · exact (by decide +kernel : kitB "list" "dict" = some false)
  · exact (by decide +kernel : kitB "tuple" "dict" = some false)
  · exact (by decide +kernel : kitB "dict" "dict" = some true)
theorem WR.ty {K : PySem.W.Frag} {M : Ad} {H : Hp} {v : V} {x : PyData} (h : WR K M H v x) : TyX K H v (.type (tyD x)) := by
  cases x with
  | none => cases h.non; exact .base .non
  | bool b => cases h.bool; exact .base (.bl b)
  | int b => cases h.int; exact .base (.int b)
  | str b => cases h.str; exact .base (.str b)
  | list b => obtain ⟨a, vs, rfl, l, _⟩ := h.lst; exact .base (.lst l)
  | tuple b =>
    obtain ⟨a, vs, rfl, l, _⟩ := h.tup
    rcases l with ⟨_, l | ⟨o, l⟩⟩ | l
    · exact .base (.tup l)
    · exact .fTuple l
    · rcases l with l | ⟨o, its, n, e, c, _⟩
      · exact (rd_none l).elim
      · exact .kTuple e c
  | dict b => obtain ⟨_, a, _, _, rfl, l, _⟩ := h.dct; exact .base (.dK l)
section
variable {X : Cx} {T : List (Addr × Str)} {E : XK} {e c a b : Expr} {pos p : Pos}
def wIsi (f : PyData → Bool) (w : W) : W := fun ρ Q X => w ρ (fun r => r.wk fun x => Q (.d (.bool (f x)))) X
theorem ev_isi {f : PyData → Bool} {ty : String} {w : W} (hf : ∀ x, kitB (tyD x) ty = some (f x)) (hg : Gl X "isinstance") (hm : X.mg "isinstance" = none) (hv : bootBuiltins "isinstance" = some (.builtin "isinstance")) (he : PE X e (lift (pm X T) E w)) (hc : PE X c (tC (.ty ty)))
    (hs1 : starEach [e, c] X.env = (false, eval e X.env) :: starEach [c] X.env := by rfl) (hs2 : starEach [c] X.env = (false, eval c X.env) :: starEach [] X.env := by rfl) (hpl : (backTo pos (starEach [c] X.env)).any (·.1) = false := by rfl) :
    PE X (.Call (.Name "isinstance" p) [e, c] [] pos) (lift (pm X T) E (wIsi f w)) := by
  refine PEimp (pe_callB call_isi hg hm hv (pa_cons he (pa_cons hc pa_nil hs2) hs1) (by decide) (by decide) hs1 hpl) fun σ H Q ⟨H0, M0, M, ρ, XW, Q3, re, xo, q, k⟩ => ?_
  refine ⟨H0, M0, M, ρ, XW, _, re, xo, q, fun r v H1 qr e1 t1 rr => ?_⟩
  obtain ⟨x, hx, qx⟩ := rr.weak qr
  exact ⟨v, .ty ty, _, _, f x, rfl, .ty ty, hx.ty, kit_ty (hf x), k _ _ H1 qx e1 t1 (.bl _)⟩

/-! ### chains -/
def wChain (o o' : Op2) (a b c : W) : W := fun ρ Q X => a ρ (fun r => r.wk fun x => b ρ (fun s => s.wk fun y => o x y fun t => t.bl fun c1 =>
  if c1 = true then c ρ (fun u => u.wk fun z => o' y z Q) X else Q (.d (.bool false))) X) X
theorem ev_chain {op op' : CmpOp} {o o' : Op2} {wa wb wc : W} (ho : OpR X (compareOp op) (rD (pm X T) o)) (ho' : OpR X (compareOp op') (rD (pm X T) o')) (ha : PE X a (lift (pm X T) E wa)) (hb : PE X b (lift (pm X T) E wb)) (hc : PE X c (lift (pm X T) E wc))
    (hm : lastMarks [op, op'] [b, c] = false := by with_unfolding_all rfl) : PE X (.Compare a [op, op'] [b, c] pos) (lift (pm X T) E (wChain o o' wa wb wc)) := by
  refine PEimp (pe_chain ho ho' ha hb hc hm) fun σ H Q ⟨H0, M0, M, ρ, XW, Q3, re, xo, q, k⟩ => ?_
  refine ⟨H0, M0, M, ρ, XW, _, re, xo, q, fun r v H1 qr e1 t1 rr => ?_⟩
  obtain ⟨x, hx, qx⟩ := rr.weak qr
  refine ⟨H0, M0, M, ρ, XW, _, re.grow e1 t1, xo.grow e1, qx, fun s u H2 qs e2 t2 rs => ?_⟩
  obtain ⟨y, hy, qy⟩ := rs.weak qs
  have re2 := re.grow (e1.trans e2) t2
  refine ⟨M, x, y, _, re2.mdom, t2, hx.ext e2, hy, qy, fun t z H3 qt e3 t3 rt => ?_⟩
  obtain ⟨c1, ez, qc⟩ := rt.bool qt
  refine ⟨c1, ez, ?_⟩
  have re3 := re2.grow e3 t3
  cases c1 with
  | false => exact k _ _ H3 qc ((e1.trans e2).trans e3) t3 (.bl false)
  | true =>
    refine ⟨H0, M0, M, ρ, XW, _, re3, xo.grow ((e1.trans e2).trans e3), qc, fun u' w' H4 q4 e4 t4 r4 => ?_⟩
    obtain ⟨z', hz, qz⟩ := r4.weak q4
    exact ⟨M, y, z', Q3, (re3.grow e4 t4).mdom, t4, (hy.ext e3).ext e4, hz, qz, fun r' v' H5 q5 e5 t5 rr5 => k r' v' H5 q5 ((((e1.trans e2).trans e3).trans e4).trans e5) t5 (rr5.back (((e1.trans e2).trans e3).trans e4))⟩
theorem et_chain {op op' : CmpOp} {o o' : Op2} {wa wb wc : W} (ho : OpR X (compareOp op) (rD (pm X T) o)) (ho' : OpR X (compareOp op') (rD (pm X T) o')) (ha : PE X a (lift (pm X T) E wa)) (hb : PE X b (lift (pm X T) E wb)) (hc : PE X c (lift (pm X T) E wc))
    (hm : lastMarks [op, op'] [b, c] = false := by with_unfolding_all rfl) (hi : ∀ whole, isTrue (.Compare a [op, op'] [b, c] pos) X.env whole = (do let v ← whole; standAt (Expr.Compare a [op, op'] [b, c] pos).pos; holding [v] (truthy v)) := by intro _; rfl) :
    PT X (.Compare a [op, op'] [b, c] pos) (liftB (pm X T) E (wT (wChain o o' wa wb wc))) := et_val (ev_chain ho ho' ha hb hc hm) hi

/-! ### slices -/
abbrev WO := Env3 → (Option Int → Prop) → (Exc → Prop) → Prop
def wNo : WO := fun _ Q _ => Q none
def wPart (w : W) : WO := fun ρ Q X => w ρ (fun r => r.wk fun x => match x with | .int i => Q (some i) | _ => False) X
def liftO (P : Pm) (E : XK) (w : WO) : TO := fun σ H Q => ∃ H0 M0 M ρ XW Q3, RE P H0 M0 M H σ ρ ∧ XOk P E XW M H ∧ w ρ Q3 XW ∧ ∀ o H', Q3 o → ExtN H H' → Tabs P.T H' → Q o H'
theorem eo_no : PO X none (liftO (pm X T) E wNo) := ⟨fun pins s σ H Q I ⟨H0, M0, M, ρ, XW, Q3, re, xo, q, k⟩ => po_none.run pins s σ H Q I (k none H q (ExtN.refl H) re.tabs)⟩
theorem eo_part {w : W} (h : PE X e (lift (pm X T) E w)) : PO X (some e) (liftO (pm X T) E (wPart w)) := ⟨fun pins s σ H Q I ⟨H0, M0, M, ρ, XW, Q3, re, xo, q, k⟩ => (po_some h).run pins s σ H Q I (by
  refine ⟨H0, M0, M, ρ, XW, _, re, xo, q, fun r v H1 qr e1 t1 rr => ?_⟩
  obtain ⟨x, hx, qx⟩ := rr.weak qr
  cases x with
  | int i => exact ⟨i, hx.int, k _ H1 qx e1 t1⟩
  | _ => exact qx.elim)⟩
/-- the part lo .. hi -/
def cut {α : Type} (xs : List α) (lo hi : Option Int) : List α := (xs.drop (HT.sIx xs.length 0 lo)).take (HT.sIx xs.length xs.length hi - HT.sIx xs.length 0 lo)
def slD (x : PyData) (lo hi : Option Int) (k : R → Prop) : Prop := match x with
  | .list xs => k (.fr (cut xs lo hi))
  | .tuple xs => k (.d (.tuple (cut xs lo hi)))
  | _ => False
def wSl (w : W) (lo hi : WO) : W := fun ρ Q X => w ρ (fun r => r.wk fun x => lo ρ (fun l => hi ρ (fun h => slD x l h Q) X) X) X
theorem DMs.cut {K : PySem.W.Frag} {M : Ad} {H : Hp} {vs : List V} {xs : List PyData} {lo hi : Option Int} (h : DMs K M H vs xs) : DMs K M H (cutV vs lo hi) (cut xs lo hi) := by
  unfold cutV T3.cut
  rw [h.length]
  exact (h.drop _).take _
theorem ev_sl {w : W} {lo hi : Option Expr} {wl wh : WO} {p2 : Pos} (he : PE X e (lift (pm X T) E w)) (hl : PO X lo (liftO (pm X T) E wl)) (hh : PO X hi (liftO (pm X T) E wh)) :
    PE X (.Subscript e (.Slice lo hi none p2) pos) (lift (pm X T) E (wSl w wl wh)) := by
  refine PEimp (pe_slice (sl_list.or sl_tupA) he hl hh) fun σ H Q ⟨H0, M0, M, ρ, XW, Q3, re, xo, q, k⟩ => ?_
  refine ⟨H0, M0, M, ρ, XW, _, re, xo, q, fun r v H1 qr e1 t1 rr => ?_⟩
  obtain ⟨x, hx, qx⟩ := rr.weak qr
  refine ⟨H0, M0, M, ρ, XW, _, re.grow e1 t1, xo.grow e1, qx, fun l H2 ql e2 t2 => ?_⟩
  refine ⟨H0, M0, M, ρ, XW, _, re.grow (e1.trans e2) t2, xo.grow (e1.trans e2), ql, fun h H3 qh e3 t3 => ?_⟩
  have e13 := (e1.trans e2).trans e3
  have hx := (hx.ext e2).ext e3
  unfold slD at qh
  split at qh
  · obtain ⟨a, vs, e4, l4, r4⟩ := hx.lst
    exact .inl ⟨a, vs, e4, SqL.of l4, fun p np => k _ _ _ qh (e13.trans (ext_new np)) (tabs_new t3 np) (lst_new e13 np r4.cut)⟩
  · obtain ⟨a, vs, e4, l4, r4⟩ := hx.tup
    refine .inr ⟨a, vs, e4, l4.sq, fun z => ?_, fun _ p np => ?_⟩
    · have c : ∀ {α : Type} (ys : List α), HT.sIx ys.length 0 l = 0 ∧ HT.sIx ys.length ys.length h = ys.length → T3.cut ys l h = ys := fun ys w => by
        unfold T3.cut
        rw [w.1, w.2, List.drop_zero, Nat.sub_zero, List.take_length]
      rw [r4.length] at z
      rw [c _ z] at qh
      exact k _ _ _ qh e13 t3 (.tup l4 r4)
    · exact k _ _ _ qh (e13.trans (ext_new np)) (tabs_new t3 np) (tup_new re.mdom e13 np r4.cut)
  · exact qh.elim
end
end T3
set_option linter.all false
set_option maxRecDepth 100000
set_option maxHeartbeats 2000000
set_option Elab.async false
/-! T5: slots stored, targets, what is walked, comprehensions, loops. -/
namespace T3
open L2 LamX PySem PyProof.Rows PySem.Spec
def noX : Exc → Prop := fun _ => False

/-! ### slots stored -/
theorem set_get {α : Type} {l : List (Option α)} {i j : Nat} {x : Option α} {y : α} (h : (l.set i x)[j]? = some (some y)) : (i = j ∧ x = some y ∧ i < l.length) ∨ (i ≠ j ∧ l[j]? = some (some y)) := by
  by_cases e : i = j
  · subst e
    by_cases q : i < l.length
    · rw [List.getElem?_set_self q] at h
      exact .inl ⟨rfl, Option.some.inj h, q⟩
    · rw [List.getElem?_eq_none (by simpa using q)] at h
      cases h
  · rw [List.getElem?_set_ne e] at h
    exact .inr ⟨e, h⟩
theorem tabs_upd {T : List (Addr × Str)} {H : Hp} {p : Addr} {vs vs' : List V} (t : Tabs T H) (hp : H p = some (.lst vs)) : Tabs T (upd H p (.lst vs')) := fun z hz => by
  obtain ⟨ps, h1, h2, h3⟩ := t z hz
  refine ⟨ps, ?_, h2, fun pos cv hc => ?_⟩
  · rw [upd_ne (ne_of h1 hp (fun q => by cases q))]
    exact h1
  · obtain ⟨c, e1, e2⟩ := h3 pos cv hc
    refine ⟨c, e1, ?_⟩
    rw [upd_ne (ne_of e2 hp (fun q => by cases q))]
    exact e2
theorem tabs_updK {T : List (Addr × Str)} {H : Hp} {p : Addr} {vs vs' : List (Key × V)} (t : Tabs T H) (hp : H p = some (.dK vs)) : Tabs T (upd H p (.dK vs')) := fun z hz => by
  obtain ⟨ps, h1, h2, h3⟩ := t z hz
  refine ⟨ps, ?_, h2, fun pos cv hc => ?_⟩
  · rw [upd_ne (ne_of h1 hp (fun q => by cases q))]
    exact h1
  · obtain ⟨c, e1, e2⟩ := h3 pos cv hc
    refine ⟨c, e1, ?_⟩
    rw [upd_ne (ne_of e2 hp (fun q => by cases q))]
    exact e2
theorem RA.not_mine {K : PySem.W.Frag} {M : Ad} {H : Hp} {v : V} {z : R} (m : z.mine) (h : RA K M H v z) : False := by
  cases z with
  | own xs => exact h
  | dk kvs => exact h
  | _ => exact m
theorem RS.more {K : PySem.W.Frag} {M : Ad} {H H' : Hp} {p : Addr} {v : V} {z : R} (o : Off H p) (e : ExtN H H') (h : RS K M H v z) : RS K (fun b => M b ∨ b = p) H' v z := by
  have up : ∀ {v d}, DM K M H v d → DM K (fun b => M b ∨ b = p) H' v d := fun h => DM.fm (.of e) (DM.more o h)
  cases z with
  | d x => exact up h
  | own ys =>
    obtain ⟨a, ws, e1, m, e4, e5⟩ := h
    exact ⟨a, ws, e1, .inl m, e _ _ e4 (fun ps q => by cases q), DMs.fm (.of e) (DMs.more o e5)⟩
  | fr ys => exact False.elim h
  | dk ys =>
    obtain ⟨a, ws, e1, m, e4, e5⟩ := h
    exact ⟨a, ws, e1, .inl m, e _ _ e4 (fun ps q => by cases q), DKs.fm (.of e) (DKs.more o e5)⟩
  | fk ys => exact False.elim h
  | hand L =>
    obtain ⟨a, e1, h2⟩ := h
    exact ⟨a, e1, (h2.more o).fm (.of e)⟩
  | scr ns =>
    obtain ⟨a, e1, h2⟩ := h
    exact ⟨a, e1, (h2.more o).fm (.of e)⟩
  | adr b => exact h
/-- what is not at p stays when p is written -/
theorem RS.upd {K : PySem.W.Frag} {M : Ad} {H : Hp} {p : Addr} {c : HO} {v : V} {z : R} (m : M p) (h : RS K M H v z) (n : z.mine → v ≠ .ref p) : RS K M (L2.upd H p c) v z := by
  have fm : Fm M H (L2.upd H p c) := fun c u z nm nt => by
    rw [upd_ne (show c ≠ p from fun w => nm (by rw [w]; exact m))]
    exact z
  cases z with
  | d x => exact DM.fm fm h
  | own ys =>
    obtain ⟨a, us, e1, ma, e4, e5⟩ := h
    subst e1
    refine ⟨a, us, rfl, ma, ?_, DMs.fm fm e5⟩
    rw [upd_ne (show a ≠ p from fun z => n trivial (by rw [z]))]
    exact e4
  | fr ys => exact False.elim h
  | dk ys =>
    obtain ⟨a, us, e1, ma, e4, e5⟩ := h
    subst e1
    refine ⟨a, us, rfl, ma, ?_, DKs.fm fm e5⟩
    rw [upd_ne (show a ≠ p from fun z => n trivial (by rw [z]))]
    exact e4
  | fk ys => exact False.elim h
  | hand L =>
    obtain ⟨a, e1, h2⟩ := h
    exact ⟨a, e1, h2.fm fm⟩
  | scr ns =>
    obtain ⟨a, e1, h2⟩ := h
    exact ⟨a, e1, h2.fm fm⟩
  | adr b => exact h
theorem RS.less {K : PySem.W.Frag} {M : Ad} {H : Hp} {p : Addr} {v : V} {z : R} (h : RS K M H v z) (n : z.mine → v ≠ .ref p) : RS K (fun b => M b ∧ b ≠ p) H v z := by
  have sub : ∀ b, (M b ∧ b ≠ p) → M b := fun b z => z.1
  cases z with
  | d x => exact DM.anti sub h
  | own ys =>
    obtain ⟨a, us, e1, ma, e4, e5⟩ := h
    subst e1
    exact ⟨a, us, rfl, ⟨ma, fun z => n trivial (by rw [z])⟩, e4, DMs.anti sub e5⟩
  | fr ys => exact False.elim h
  | dk ys =>
    obtain ⟨a, us, e1, ma, e4, e5⟩ := h
    subst e1
    exact ⟨a, us, rfl, ⟨ma, fun z => n trivial (by rw [z])⟩, e4, DKs.anti sub e5⟩
  | fk ys => exact False.elim h
  | hand L =>
    obtain ⟨a, e1, h2⟩ := h
    exact ⟨a, e1, h2.anti sub⟩
  | scr ns =>
    obtain ⟨a, e1, h2⟩ := h
    exact ⟨a, e1, h2.anti sub⟩
  | adr b => exact h
section
variable {P : Pm} {H0 H H' : Hp} {M0 M : Ad} {σ : St} {ρ : Env3}
/-- a slot forgotten -/
theorem RE.unset (r : RE P H0 M0 M H σ ρ) (i : Nat) (v : Option V) : RE P H0 M0 M H (σ.set i v) (ρ.set i none) where
  ext := r.ext
  tabs := r.tabs
  m0 := r.m0
  mdom := r.mdom
  mown := r.mown
  m0dom := r.m0dom
  slot := fun j z q => by
    rcases set_get q with ⟨_, e, _⟩ | ⟨ne, q⟩
    · cases e
    · obtain ⟨w, h1, h2⟩ := r.slot j z q
      exact ⟨w, by rw [List.getElem?_set_ne ne]; exact h1, h2⟩
  minf := fun j y a my q hσ => by
    rcases set_get q with ⟨_, e, _⟩ | ⟨ne, q⟩
    · cases e
    · rw [List.getElem?_set_ne ne] at hσ
      exact r.minf j y a my q hσ
  mind := fun j k y z a my mz hne q1 q2 hσ => by
    rcases set_get q1 with ⟨_, e, _⟩ | ⟨ne1, q1⟩
    · cases e
    · rcases set_get q2 with ⟨_, e, _⟩ | ⟨ne2, q2⟩
      · cases e
      · rw [List.getElem?_set_ne ne1] at hσ
        rw [List.getElem?_set_ne ne2]
        exact r.mind j k y z a my mz hne q1 q2 hσ
  len := by rw [List.length_set, List.length_set]; exact r.len
/-- a slot stored: a tree, the hand, the script -/
theorem RE.set {v : V} {z : R} (r : RE P H0 M0 M H σ ρ) (i : Nat) (h : RA P.K M H v z) : RE P H0 M0 M H (σ.set i (some v)) (ρ.set i (some z)) where
  ext := r.ext
  tabs := r.tabs
  m0 := r.m0
  mdom := r.mdom
  mown := r.mown
  m0dom := r.m0dom
  slot := fun j y q => by
    rcases set_get q with ⟨e, e2, hi⟩ | ⟨ne, q⟩
    · subst e
      cases e2
      exact ⟨v, by rw [List.getElem?_set_self (by rw [← r.len]; exact hi)], h.rs⟩
    · obtain ⟨w, h1, h2⟩ := r.slot j y q
      exact ⟨w, by rw [List.getElem?_set_ne ne]; exact h1, h2⟩
  minf := fun j y a my q hσ => by
    rcases set_get q with ⟨_, e, _⟩ | ⟨ne, q⟩
    · cases e
      exact (RA.not_mine my h).elim
    · rw [List.getElem?_set_ne ne] at hσ
      exact r.minf j y a my q hσ
  mind := fun j k y y2 a my mz hne q1 q2 hσ => by
    rcases set_get q1 with ⟨_, e, _⟩ | ⟨ne1, q1⟩
    · cases e
      exact (RA.not_mine my h).elim
    · rcases set_get q2 with ⟨_, e, _⟩ | ⟨ne2, q2⟩
      · cases e
        exact (RA.not_mine mz h).elim
      · rw [List.getElem?_set_ne ne1] at hσ
        rw [List.getElem?_set_ne ne2]
        exact r.mind j k y y2 a my mz hne q1 q2 hσ
  len := by rw [List.length_set, List.length_set]; exact r.len
/-- a new thing stored, the frame's own -/
theorem RE.setM {p : Addr} {c : HO} {z : R} (r : RE P H0 M0 M H σ ρ) (e : ExtN H H') (t : Tabs P.T H') (i : Nat) (mz : z.mine) (o : Off H p) (hp : H' p = some c) (nt : ∀ ps, c ≠ .tbl ps) (hz : RS P.K (fun b => M b ∨ b = p) H' (.ref p) z) :
    RE P H0 M0 (fun b => M b ∨ b = p) H' (σ.set i (some (.ref p))) (ρ.set i (some z)) := by
  have g := r.grow e t
  have nold : ∀ (j : Nat) (y : R) (a : Addr), y.mine → ρ[j]? = some (some y) → σ[j]? = some (some (V.ref a)) → a ≠ p := fun j y a my q hσ z => by
    subst z
    obtain ⟨w, h1, h2⟩ := r.slot j _ q
    obtain ⟨b, e1, m, _⟩ := h2.at my
    rw [hσ] at h1
    cases h1
    cases e1
    exact r.mdom _ m o
  refine ⟨g.ext, t, fun a m => .inl (r.m0 a m), fun a m => ?_, fun a m => ?_, r.m0dom, fun j y q => ?_, fun j y a my q hσ => ?_, fun j k y y2 a my my2 hne q1 q2 hσ => ?_, by rw [List.length_set, List.length_set]; exact r.len⟩
  · rcases m with m | rfl
    · exact g.mdom a m
    · intro z
      obtain ⟨ps, q⟩ := z _ hp
      exact nt ps q
  · rcases m with m | rfl
    · exact r.mown a m
    · exact .inr (o.back r.ext)
  · rcases set_get q with ⟨e3, e2, hi⟩ | ⟨ne, q⟩
    · subst e3
      cases e2
      exact ⟨.ref p, by rw [List.getElem?_set_self (by rw [← r.len]; exact hi)], hz⟩
    · obtain ⟨w, h1, h2⟩ := r.slot j y q
      exact ⟨w, by rw [List.getElem?_set_ne ne]; exact h1, h2.more o e⟩
  · rcases set_get q with ⟨e3, e2, hi⟩ | ⟨ne, q⟩
    · subst e3
      rw [List.getElem?_set_self (by rw [← r.len]; exact hi)] at hσ
      cases hσ
      exact o.back r.ext
    · rw [List.getElem?_set_ne ne] at hσ
      exact r.minf j y a my q hσ
  · rcases set_get q1 with ⟨e3, e2, hi⟩ | ⟨ne1, q1⟩
    · subst e3
      rw [List.getElem?_set_self (by rw [← r.len]; exact hi)] at hσ
      cases hσ
      rcases set_get q2 with ⟨e4, _, _⟩ | ⟨ne2, q2⟩
      · exact absurd e4 hne
      · rw [List.getElem?_set_ne ne2]
        exact fun z => nold k y2 _ my2 q2 z rfl
    · rw [List.getElem?_set_ne ne1] at hσ
      rcases set_get q2 with ⟨e4, e2, hi⟩ | ⟨ne2, q2⟩
      · subst e4
        rw [List.getElem?_set_self (by rw [← r.len]; exact hi)]
        intro z
        cases z
        exact nold j y _ my q1 hσ rfl
      · rw [List.getElem?_set_ne ne2]
        exact r.mind j k y y2 a my my2 hne q1 q2 hσ
/-- a new list stored, the frame's own -/
theorem RE.setO {v : V} {xs : List PyData} (r : RE P H0 M0 M H σ ρ) (e : ExtN H H') (t : Tabs P.T H') (i : Nat) (h : RR P.K M H H' v (.fr xs)) :
    ∃ M', RE P H0 M0 M' H' (σ.set i (some v)) (ρ.set i (some (.own xs))) := by
  obtain ⟨p, vs, rfl, o, hp, hx⟩ := h
  exact ⟨_, r.setM (z := .own xs) e t i trivial o hp (fun ps q => by cases q) ⟨p, vs, rfl, .inr rfl, hp, hx⟩⟩
theorem RE.setK {v : V} {xs : List (Key × PyData)} (r : RE P H0 M0 M H σ ρ) (e : ExtN H H') (t : Tabs P.T H') (i : Nat) (h : RR P.K M H H' v (.fk xs)) :
    ∃ M', RE P H0 M0 M' H' (σ.set i (some v)) (ρ.set i (some (.dk xs))) := by
  obtain ⟨p, vs, rfl, o, hp, hx⟩ := h
  exact ⟨_, r.setM (z := .dk xs) e t i trivial o hp (fun ps q => by cases q) ⟨p, vs, rfl, .inr rfl, hp, hx⟩⟩
/-- the frame's own, changed in place -/
theorem RE.updM {p : Addr} {c : HO} {z z' : R} {i : Nat} (r : RE P H0 M0 M H σ ρ) (mz : z.mine) (mz' : z'.mine) (q : ρ[i]? = some (some z)) (hσ : σ[i]? = some (some (.ref p))) (nt : ∀ ps, c ≠ .tbl ps) (tt : Tabs P.T (L2.upd H p c))
    (h : RS P.K M (L2.upd H p c) (.ref p) z') : RE P H0 M0 M (L2.upd H p c) σ (ρ.set i (some z')) := by
  obtain ⟨w, h1, h2⟩ := r.slot i _ q
  obtain ⟨b, e1, m, _⟩ := h2.at mz
  rw [hσ] at h1
  cases h1
  cases e1
  have o0 := r.minf i z p mz q hσ
  refine ⟨fun c u z nt => ?_, tt, r.m0, fun a ma z => ?_, r.mown, r.m0dom, fun j y qj => ?_, fun j y a my qj hj => ?_, fun j k y y2 a my my2 hne q1 q2 hj => ?_, by rw [List.length_set]; exact r.len⟩
  · rw [upd_ne (show c ≠ p from fun w => by
      subst w
      obtain ⟨ps, e⟩ := o0 _ z
      exact nt ps e)]
    exact r.ext c u z nt
  · by_cases e : a = p
    · subst e
      obtain ⟨ps, w⟩ := z _ upd_same
      exact nt ps w
    · refine r.mdom a ma fun u hu => z u ?_
      rw [upd_ne e]
      exact hu
  · rcases set_get qj with ⟨e3, e2, hi⟩ | ⟨ne, qj⟩
    · subst e3
      cases e2
      exact ⟨_, hσ, h⟩
    · obtain ⟨w, h1, h2⟩ := r.slot j y qj
      exact ⟨w, h1, h2.upd m fun my e => r.mind i j z y p mz my ne q qj hσ (by rw [h1, e])⟩
  · rcases set_get qj with ⟨e3, e2, hi⟩ | ⟨ne, qj⟩
    · subst e3
      exact r.minf i z a mz q hj
    · exact r.minf j y a my qj hj
  · rcases set_get q1 with ⟨e3, _, _⟩ | ⟨ne1, q1⟩
    · subst e3
      rcases set_get q2 with ⟨e4, _, _⟩ | ⟨ne2, q2⟩
      · exact absurd e4 hne
      · exact r.mind i k z y2 a mz my2 hne q q2 hj
    · rcases set_get q2 with ⟨e4, _, _⟩ | ⟨ne2, q2⟩
      · subst e4
        exact r.mind j i y z a my mz hne q1 q hj
      · exact r.mind j k y y2 a my my2 hne q1 q2 hj
theorem RE.upd {p : Addr} {vs' : List V} {xs xs' : List PyData} {i : Nat} (r : RE P H0 M0 M H σ ρ) (q : ρ[i]? = some (some (.own xs))) (hσ : σ[i]? = some (some (.ref p))) (h : DMs P.K M H vs' xs') :
    RE P H0 M0 M (L2.upd H p (.lst vs')) σ (ρ.set i (some (.own xs'))) := by
  obtain ⟨w, h1, b, ws, e1, m, hp, hx⟩ := r.slot i _ q
  rw [hσ] at h1
  cases h1
  cases e1
  have fm : Fm M H (L2.upd H p (.lst vs')) := fun c u z nm nt => by
    rw [upd_ne (show c ≠ p from fun w => nm (by rw [w]; exact m))]
    exact z
  exact r.updM (z := .own xs) (z' := .own xs') trivial trivial q hσ (fun ps q => by cases q) (tabs_upd r.tabs hp) ⟨p, vs', rfl, m, upd_same, DMs.fm fm h⟩
theorem RE.updK {p : Addr} {vs' : List (Key × V)} {xs xs' : List (Key × PyData)} {i : Nat} (r : RE P H0 M0 M H σ ρ) (q : ρ[i]? = some (some (.dk xs))) (hσ : σ[i]? = some (some (.ref p))) (h : DKs P.K M H vs' xs') :
    RE P H0 M0 M (L2.upd H p (.dK vs')) σ (ρ.set i (some (.dk xs'))) := by
  obtain ⟨w, h1, b, ws, e1, m, hp, hx⟩ := r.slot i _ q
  rw [hσ] at h1
  cases h1
  cases e1
  have fm : Fm M H (L2.upd H p (.dK vs')) := fun c u z nm nt => by
    rw [upd_ne (show c ≠ p from fun w => nm (by rw [w]; exact m))]
    exact z
  exact r.updM (z := .dk xs) (z' := .dk xs') trivial trivial q hσ (fun ps q => by cases q) (tabs_updK r.tabs hp) ⟨p, vs', rfl, m, upd_same, DKs.fm fm h⟩
/-- the frame's own becomes a tree -/
theorem RE.freezeM {z : R} {x : PyData} {i : Nat} (r : RE P H0 M0 M H σ ρ) (mz : z.mine) (q : ρ[i]? = some (some z)) (hx : ∀ p, σ[i]? = some (some (.ref p)) → RS P.K M H (.ref p) z → DM P.K (fun b => M b ∧ b ≠ p) H (.ref p) x) : ∃ M', RE P H0 M0 M' H σ (ρ.set i (some (.d x))) := by
  obtain ⟨w, h1, h2⟩ := r.slot i _ q
  obtain ⟨p, e1, m, _⟩ := h2.at mz
  subst e1
  have o0 := r.minf i z p mz q h1
  refine ⟨fun b => M b ∧ b ≠ p, r.ext, r.tabs, fun a ma => ⟨r.m0 a ma, fun z => ?_⟩, fun a ma => r.mdom a ma.1, fun a ma => r.mown a ma.1, r.m0dom, fun j y qj => ?_, fun j y a my qj hj => ?_, fun j k y y2 a my my2 hne q1 q2 hj => ?_, by rw [List.length_set]; exact r.len⟩
  · subst z
    exact r.m0dom _ ma o0
  · rcases set_get qj with ⟨e3, e2, hi⟩ | ⟨ne, qj⟩
    · subst e3
      cases e2
      exact ⟨_, h1, hx p h1 h2⟩
    · obtain ⟨w, g1, g2⟩ := r.slot j y qj
      exact ⟨w, g1, g2.less fun my e => r.mind i j z y p mz my ne q qj h1 (by rw [g1, e])⟩
  · rcases set_get qj with ⟨_, e, _⟩ | ⟨ne, qj⟩
    · cases e
      exact False.elim my
    · exact r.minf j y a my qj hj
  · rcases set_get q1 with ⟨_, e, _⟩ | ⟨ne1, q1⟩
    · cases e
      exact False.elim my
    · rcases set_get q2 with ⟨_, e, _⟩ | ⟨ne2, q2⟩
      · cases e
        exact False.elim my2
      · exact r.mind j k y y2 a my my2 hne q1 q2 hj
theorem RE.freeze {xs : List PyData} {i : Nat} (r : RE P H0 M0 M H σ ρ) (q : ρ[i]? = some (some (.own xs))) : ∃ M', RE P H0 M0 M' H σ (ρ.set i (some (.d (.list xs)))) :=
  r.freezeM (z := .own xs) trivial q fun p hp ⟨a, ws, e1, m, hq, hx⟩ => by
    cases e1
    exact .lst ⟨fun z => z.2 rfl, hq⟩ (DMs.anti (fun b z => z.1) hx)
theorem RE.freezeK {xs : List (Key × PyData)} {i : Nat} (r : RE P H0 M0 M H σ ρ) (q : ρ[i]? = some (some (.dk xs))) : ∃ M', RE P H0 M0 M' H σ (ρ.set i (some (.d (.dict (dictD xs))))) :=
  r.freezeM (z := .dk xs) trivial q fun p hp ⟨a, ws, e1, m, hq, hx⟩ => by
    cases e1
    exact .dct (fun z => z.2 rfl) hq (DKs.anti (fun b z => z.1) hx)
end
end T3
set_option linter.all false
set_option maxRecDepth 100000
set_option maxHeartbeats 2000000
set_option Elab.async false
/-! T6: targets, what is walked, comprehensions, loops. -/
namespace T3
open L2 LamX PySem PyProof.Rows PySem.Spec

/-! ### targets -/
inductive Tg where
  | one (i : Nat)
  | tup (ts : List Tg)
mutual
def Tg.ix : Tg → List Nat
  | .one i => [i]
  | .tup ts => ixs ts
def ixs : List Tg → List Nat
  | [] => []
  | t :: ts => t.ix ++ ixs ts
end
mutual
def tgG (K : PySem.W.Frag) : Tg → TG
  | .one i => gName i
  | .tup ts => gTup K ts.length (tgGs K ts)
def tgGs (K : PySem.W.Frag) : List Tg → TGs
  | [] => gNil
  | t :: ts => gCons (tgG K t) (tgGs K ts)
end
mutual
def tgW : Tg → PyData → Env3 → (Env3 → Prop) → Prop
  | .one i, x, ρ, Q => Q (ρ.set i (some (.d x)))
  | .tup ts, x, ρ, Q => match x with
    | .tuple xs => xs.length = ts.length ∧ tgWs ts xs ρ Q
    | _ => False
def tgWs : List Tg → List PyData → Env3 → (Env3 → Prop) → Prop
  | [], [], ρ, Q => Q ρ
  | t :: ts, x :: xs, ρ, Q => tgW t x ρ fun ρ' => tgWs ts xs ρ' Q
  | [], _ :: _, _, _ => False
  | _ :: _, [], _, _ => False
end
theorem wipe_set {σ : St} {i : Nat} {v : Option V} : ∀ {vs : List Nat}, i ∈ vs → wipe (σ.set i v) vs = wipe σ vs
  | [], h => by cases h
  | k :: vs, h => by
    show (wipe (σ.set i v) vs).set k none = (wipe σ vs).set k none
    by_cases e : i ∈ vs
    · rw [wipe_set e]
    · have ek : i = k := by
        rcases List.mem_cons.mp h with z | z
        · exact z
        · exact absurd z e
      subst ek
      have c : ∀ (ws : List Nat) (τ : St), i ∉ ws → wipe (τ.set i v) ws = (wipe τ ws).set i v := by
        intro ws
        induction ws with
        | nil => intro τ _; rfl
        | cons w ws ih =>
          intro τ hn
          show (wipe (τ.set i v) ws).set w none = ((wipe τ ws).set w none).set i v
          rw [ih τ (fun z => hn (List.mem_cons_of_mem _ z)), List.set_comm _ _ (fun z => hn (by rw [z]; exact List.mem_cons_self))]
      rw [c vs σ e, List.set_set]
section
variable {P : Pm} {H0 H H' : Hp} {M0 M : Ad} {σ : St} {ρ : Env3}
mutual
theorem tg_ok : ∀ (t : Tg) {v : V} {x : PyData} {Q3 : Env3 → Prop} {Q : St → Hp → Prop} {σ : St} {ρ : Env3}, RE P H0 M0 M H σ ρ → DM P.K M H v x → tgW t x ρ Q3 →
    (∀ σ' ρ', Q3 ρ' → RE P H0 M0 M H σ' ρ' → (∀ ws : List Nat, (∀ i ∈ t.ix, i ∈ ws) → wipe σ' ws = wipe σ ws) → Q σ' H) → tgG P.K t v σ H Q
  | .one i, v, x, Q3, Q, σ, ρ, re, h, q, k => k _ _ (by rw [tgW] at q; exact q) (re.set i (z := .d x) h) fun ws hs => wipe_set (hs i (by rw [Tg.ix]; exact List.mem_cons_self))
  | .tup ts, v, x, Q3, Q, σ, ρ, re, h, q, k => by
    cases x with
    | tuple xs =>
      simp only [tgW] at q
      cases h with
      | tup l r =>
        rw [tgG]
        exact ⟨_, _, rfl, l.sq, by rw [r.length]; exact q.1, tgs_ok ts re r q.2 fun σ' ρ' q' re' hw => k σ' ρ' q' re' fun ws hs => hw ws fun i hi => hs i (by rw [Tg.ix]; exact hi)⟩
    | _ => simp only [tgW] at q
theorem tgs_ok : ∀ (ts : List Tg) {vs : List V} {xs : List PyData} {Q3 : Env3 → Prop} {Q : St → Hp → Prop} {σ : St} {ρ : Env3}, RE P H0 M0 M H σ ρ → DMs P.K M H vs xs → tgWs ts xs ρ Q3 →
    (∀ σ' ρ', Q3 ρ' → RE P H0 M0 M H σ' ρ' → (∀ ws : List Nat, (∀ i ∈ ixs ts, i ∈ ws) → wipe σ' ws = wipe σ ws) → Q σ' H) → tgGs P.K ts vs σ H Q
  | [], _, _, Q3, Q, σ, ρ, re, .nil, q, k => by
    rw [tgWs] at q
    rw [tgGs]
    exact ⟨rfl, k σ ρ q re fun _ _ => rfl⟩
  | t :: ts, _, _, Q3, Q, σ, ρ, re, .cons h r, q, k => by
    rw [tgWs] at q
    rw [tgGs]
    refine ⟨_, _, rfl, tg_ok t re h q fun σ1 ρ1 q1 re1 hw1 => tgs_ok ts re1 r q1 fun σ2 ρ2 q2 re2 hw2 => k σ2 ρ2 q2 re2 fun ws hs => ?_⟩
    rw [hw2 ws fun i hi => hs i (by rw [ixs]; exact List.mem_append_right _ hi), hw1 ws fun i hi => hs i (by rw [ixs]; exact List.mem_append_left _ hi)]
  | [], _, _, _, _, _, _, _, .cons _ _, q, _ => by
    rw [tgWs] at q
    exact q.elim
  | _ :: _, _, _, _, _, _, _, _, .nil, q, _ => by
    rw [tgWs] at q
    exact q.elim
end
end

/-! ### the frame's heap told anew -/
noncomputable def rest0 (M0 M : Ad) (H : Hp) : Hp := fun b => by
  classical
  exact if M b ∧ ¬ M0 b then none else H b
theorem rest0_get {M0 M : Ad} {H : Hp} {b : Addr} {o : HO} (h : rest0 M0 M H b = some o) : H b = some o := by
  unfold rest0 at h
  split at h
  · cases h
  · exact h
theorem rest0_at {M0 M : Ad} {H : Hp} {b : Addr} (h : ¬ (M b ∧ ¬ M0 b)) : rest0 M0 M H b = H b := by
  unfold rest0
  rw [if_neg h]
theorem rest0_off {M0 M : Ad} {H : Hp} {b : Addr} (h : M b) (h0 : ¬ M0 b) : rest0 M0 M H b = none := by
  unfold rest0
  rw [if_pos ⟨h, h0⟩]
section
variable {P : Pm} {H0 H H' : Hp} {M0 M M' : Ad} {σ σ' : St} {ρ ρ' : Env3}
theorem RE.own0 (r : RE P H0 M0 M H σ ρ) : ExtN H0 (rest0 M0 M H) := fun b o e n => by
  rw [rest0_at]
  · exact r.ext b o e n
  · rintro ⟨m, m0⟩
    rcases r.mown b m with z | z
    · exact m0 z
    · obtain ⟨ps, w⟩ := z _ e
      exact n ps w
theorem RE.rebase (r : RE P H0 M0 M H σ ρ) : RE P (rest0 M0 M H) M0 M H σ ρ where
  ext := fun b o e _ => rest0_get e
  tabs := r.tabs
  m0 := r.m0
  mdom := r.mdom
  mown := fun a m => by
    by_cases z : M0 a
    · exact .inl z
    · exact .inr (.of_none (rest0_off m z))
  m0dom := fun a m z => r.mdom a (r.m0 a m) fun o e => z o (by rw [rest0_at (fun w => w.2 m)]; exact e)
  slot := r.slot
  minf := fun i y a my q hσ => by
    obtain ⟨w, h1, h2⟩ := r.slot i _ q
    obtain ⟨b, e1, m, _⟩ := h2.at my
    rw [hσ] at h1
    cases h1
    cases e1
    exact .of_none (rest0_off m fun z => r.m0dom a z (r.minf i y a my q hσ))
  mind := r.mind
  len := r.len
/-- .. and back -/
theorem RE.unbase (r0 : RE P H0 M0 M H σ ρ) (r : RE P (rest0 M0 M H) M0 M' H' σ' ρ') : RE P H0 M0 M' H' σ' ρ' where
  ext := r0.own0.trans r.ext
  tabs := r.tabs
  m0 := r.m0
  mdom := r.mdom
  mown := fun a m => (r.mown a m).imp id fun z => z.back r0.own0
  m0dom := r0.m0dom
  slot := r.slot
  minf := fun i y a my q hσ => (r.minf i y a my q hσ).back r0.own0
  mind := r.mind
  len := r.len
theorem RE.fm0 (r : RE P H0 M0 M H σ ρ) : Fm M H (rest0 M0 M H) := fun b o e m _ => by
  rw [rest0_at (fun z => m z.1)]
  exact e
end

/-! ### what is walked -/
structure WalkT (K : PySem.W.Frag) (T : List (Addr × Str)) (M : Ad) (F : Hp) (J : It) (xs : List PyData) : Prop where
  ex : ∃ (G : Hp → Prop) (Y : Nat → Hp → V → Hp → Prop), Walk J xs.length G Y ∧ (∀ H, ExtN F H → G H) ∧
    ∀ i H x H' M', i < xs.length → ExtN F H → (∀ a, M' a → M a ∨ Off F a) → (∀ a, M' a → ¬ Off H a) → Y i H x H' → ExtN H H' ∧ (Tabs T H → Tabs T H') ∧ ∃ d, xs[i]? = some d ∧ DM K M' H' x d
abbrev WI := Env3 → (Bool → List PyData → Prop) → (Exc → Prop) → Prop
/-- wk: it is a list of the frame's own that is walked -/
def liftI (P : Pm) (E : XK) (w : WI) : TI := fun σ H R => ∃ H0 M0 M ρ XW Q3, RE P H0 M0 M H σ ρ ∧ XOk P E XW M H ∧ w ρ Q3 XW ∧
  ∀ wk xs J H', Q3 wk xs → ExtN H H' → Tabs P.T H' → xs.length ≤ sizeLine → (∀ F, (wk = false → Fm M H' F) → (wk = true → F = H') → WalkT P.K P.T M F J xs) → R J H'
section
variable {K : PySem.W.Frag} {T : List (Addr × Str)} {M M' : Ad} {H F : Hp}
mutual
theorem DM.off : ∀ {v : V} {d : PyData}, DM K M F v d → ExtN F H → (∀ a, M' a → M a ∨ Off F a) → DM K M' H v d
  | _, _, .non, _, _ => .non
  | _, _, .bl b, _, _ => .bl b
  | _, _, .int i, _, _ => .int i
  | _, _, .str x, _, _ => .str x
  | _, _, .lst h r, e, m => .lst ⟨fun z => (m _ z).elim h.1 fun o => o.rd (.inl h.2) (fun ps q => by cases q) rfl, e _ _ h.2 (fun ps q => by cases q)⟩ (DMs.off r e m)
  | _, _, .tup h r, e, m => .tup (h.imp (fun z => ⟨fun w => (m _ w).elim z.1 fun o => o.rd z.2 (fun ps q => by cases q) rfl, Fm.rd (.of e) z.1 (fun ps q => by cases q) z.2⟩) id) (DMs.off r e m)
  | _, _, .dct n h r, e, m => .dct (fun z => (m _ z).elim n fun o => o.rd (.inl h) (fun ps q => by cases q) rfl) (e _ _ h (fun ps q => by cases q)) (DKs.off r e m)
theorem DMs.off : ∀ {vs : List V} {ds : List PyData}, DMs K M F vs ds → ExtN F H → (∀ a, M' a → M a ∨ Off F a) → DMs K M' H vs ds
  | _, _, .nil, _, _ => .nil
  | _, _, .cons h r, e, m => .cons (DM.off h e m) (DMs.off r e m)
theorem DKs.off : ∀ {vs : List (Key × V)} {ds : List (Key × PyData)}, DKs K M F vs ds → ExtN F H → (∀ a, M' a → M a ∨ Off F a) → DKs K M' H vs ds
  | _, _, .nil, _, _ => .nil
  | _, _, .cons h r, e, m => .cons (DM.off h e m) (DKs.off r e m)
end
end
section
variable {X : Cx} {T : List (Addr × Str)} {E : XK} {e a b : Expr} {pos p : Pos} {tg : Expr}
theorem PIimp {t t' : TI} (h : PI X tg e t) (f : ∀ σ H R, t' σ H R → t σ H R) : PI X tg e t' := ⟨fun pins s σ H R I q => h.run pins s σ H R I (f _ _ _ q)⟩
/-- a value's length, as the heap has it -/
def LenOk (K : PySem.W.Frag) (v : V) (H : Hp) : Prop := ∀ a vs, v = .ref a → SqL K H a vs ∨ SqT K H a vs → vs.length ≤ sizeLine
theorem PElen {t : TE} (h : PE X e t) : PE X e (fun σ H Q => t σ H fun v H1 => LenOk X.K v H1 → Q v H1) :=
  ⟨fun pins s σ H Q I q => thn (h.run pins s σ H _ I q) fun u s1 ⟨v, H1, I1, r, q1⟩ => ⟨v, H1, I1, r, q1 fun a vs _ l => by
    rcases l with l | l
    · obtain ⟨_, _, _, z⟩ := I1.list l
      exact z
    · obtain ⟨_, _, _, z⟩ := I1.tuple l
      exact z⟩⟩
theorem walk_lst {M : Ad} {a : Addr} {vs : List V} {xs : List PyData} {F : Hp} (hF : F a = some (.lst vs)) (hd : DMs X.K M F vs xs) : WalkT X.K T M F (Itl X.K a) xs := by
  refine ⟨⟨fun H => SqL X.K H a vs, YAt vs, ?_, fun H e => SqL.of (e _ _ hF (fun ps q => by cases q)), fun i H x H' M' hi e m _ y => ?_⟩⟩
  · rw [← hd.length]
    exact walk_list
  · obtain ⟨rfl, hx⟩ := y
    obtain ⟨d, h1, h2⟩ := hd.get hx
    exact ⟨ExtN.refl _, id, d, h1, h2.off e m⟩
theorem sqT_ext {K : PySem.W.Frag} {H H' : Hp} {a : Addr} {xs : List V} (e : ExtN H H') (h : SqT K H a xs) : SqT K H' a xs := by
  rcases h with (h | ⟨o, h⟩) | h
  · exact .inl (.inl (e _ _ h (fun ps q => by cases q)))
  · exact .inl (.inr ⟨o, e _ _ h (fun ps q => by cases q)⟩)
  · exact .inr h
theorem walk_tpl {M : Ad} {a : Addr} {vs : List V} {xs : List PyData} {F : Hp} (hF : SqT X.K F a vs) (hd : DMs X.K M F vs xs) : WalkT X.K T M F (Itt X.K a) xs := by
  refine ⟨⟨fun H => SqT X.K H a vs, YAt vs, ?_, fun H e => sqT_ext e hF, fun i H x H' M' hi e m _ y => ?_⟩⟩
  · rw [← hd.length]
    exact walk_tup
  · obtain ⟨rfl, hx⟩ := y
    obtain ⟨d, h1, h2⟩ := hd.get hx
    exact ⟨ExtN.refl _, id, d, h1, h2.off e m⟩
/-- a list -/
def wIl (w : W) : WI := fun ρ Q X => w ρ (fun r => match r with
  | .d (.list xs) => Q false xs
  | .fr xs => Q false xs
  | .own xs => Q true xs
  | _ => False) X
theorem ei_list {w : W} (h : PE X e (lift (pm X T) E w)) : PI X tg e (liftI (pm X T) E (wIl w)) := by
  refine PIimp (pi_list (PElen h)) fun σ H R ⟨H0, M0, M, ρ, XW, Q3, re, xo, q, k⟩ => ?_
  refine ⟨H0, M0, M, ρ, XW, _, re, xo, q, fun r v H1 qr e1 t1 rr len => ?_⟩
  cases r with
  | d x =>
    cases x with
    | list xs =>
      cases rr with
      | lst l r =>
        exact ⟨_, rfl, ⟨_, SqL.of l.2⟩, k false xs _ H1 qr e1 t1 (by rw [← r.length]; exact len _ _ rfl (.inl (SqL.of l.2))) fun F hF _ => walk_lst ((hF rfl) _ _ l.2 l.1 (fun ps q => by cases q)) (DMs.fm (hF rfl) r)⟩
    | _ => exact qr.elim
  | own xs =>
    obtain ⟨p, vs, rfl, m, h2, h3⟩ := rr
    refine ⟨_, rfl, ⟨_, SqL.of h2⟩, k true xs _ H1 qr e1 t1 (by rw [← h3.length]; exact len _ _ rfl (.inl (SqL.of h2))) fun F _ hF => ?_⟩
    cases hF rfl
    exact walk_lst h2 h3
  | fr xs =>
    obtain ⟨p, vs, rfl, o, h2, h3⟩ := rr
    have nm : ¬ M p := fun z => re.mdom p z o
    refine ⟨_, rfl, ⟨_, SqL.of h2⟩, k false xs _ H1 qr e1 t1 (by rw [← h3.length]; exact len _ _ rfl (.inl (SqL.of h2))) fun F hF _ => ?_⟩
    exact walk_lst ((hF rfl) _ _ h2 nm (fun ps q => by cases q)) (DMs.fm (hF rfl) (DMs.anti (fun b z => .inl z) h3))
  | dk kvs => exact qr.elim
  | fk kvs => exact qr.elim
  | hand L => exact qr.elim
  | scr ns => exact qr.elim
  | adr b => exact qr.elim
/-- a tuple -/
def wIt (w : W) : WI := fun ρ Q X => w ρ (fun r => match r with
  | .d (.tuple xs) => Q false xs
  | _ => False) X
theorem ei_tup {w : W} (h : PE X e (lift (pm X T) E w)) : PI X tg e (liftI (pm X T) E (wIt w)) := by
  refine PIimp (pi_tup (PElen h)) fun σ H R ⟨H0, M0, M, ρ, XW, Q3, re, xo, q, k⟩ => ?_
  refine ⟨H0, M0, M, ρ, XW, _, re, xo, q, fun r v H1 qr e1 t1 rr len => ?_⟩
  cases r with
  | d x =>
    cases x with
    | tuple xs =>
      cases rr with
      | tup l r =>
        exact ⟨_, rfl, ⟨_, l.sq⟩, k false xs _ H1 qr e1 t1 (by rw [← r.length]; exact len _ _ rfl (.inr l.sq)) fun F hF _ => walk_tpl (l.fm (hF rfl)).sq (DMs.fm (hF rfl) r)⟩
    | _ => exact qr.elim
  | _ => exact qr.elim
/-- range(a), range(a, b) -/
def rgD (lo hi : Int) : List PyData := (List.range (hi - lo).toNat).map fun (i : Nat) => PyData.int (lo + i)
def wIr1 (w : W) : WI := fun ρ Q X => w ρ (fun r => r.wk fun x => match x with
  | .int n => (-1000000 ≤ n ∧ n ≤ 16777216) ∧ Q false (rgD 0 n)
  | _ => False) X
def wIr2 (a b : W) : WI := fun ρ Q X => a ρ (fun r => r.wk fun x => b ρ (fun s => s.wk fun y => match x, y with
  | .int i, .int j => (-1000000 ≤ i ∧ i ≤ 16777216 ∧ -1000000 ≤ j ∧ j - i ≤ 16777216) ∧ Q false (rgD i j)
  | _, _ => False) X) X
theorem walk_rg {M : Ad} {F : Hp} {lo hi : Int} : WalkT X.K T M F (Itr lo (hi - lo).toNat) (rgD lo hi) := by
  refine ⟨⟨fun _ => True, YFn fun i => .int (lo + i), ?_, fun _ _ => trivial, fun i H x H' M' hi' e m _ y => ?_⟩⟩
  · have : (rgD lo hi).length = (hi - lo).toNat := by unfold rgD; rw [List.length_map, List.length_range]
    rw [this]
    exact walk_range
  · obtain ⟨rfl, rfl⟩ := y
    refine ⟨ExtN.refl _, id, _, ?_, .int _⟩
    unfold rgD at hi' ⊢
    rw [List.length_map, List.length_range] at hi'
    rw [List.getElem?_map, List.getElem?_range hi']
    rfl
theorem rgD_len (lo hi : Int) : (rgD lo hi).length = (hi - lo).toNat := by unfold rgD; rw [List.length_map, List.length_range]
theorem ei_rg1 {w : W} (hg : Gl X "range") (hm : X.mg "range" = none) (ha : PE X a (lift (pm X T) E w)) (hs : starEach [a] X.env = (false, eval a X.env) :: starEach [] X.env := by rfl) (hs' : starEach [a] X.env = [(false, eval a X.env)] := by rfl) :
    PI X tg (.Call (.Name "range" p) [a] [] pos) (liftI (pm X T) E (wIr1 w)) := by
  refine PIimp (pi_range1 hg hm (pa_cons ha pa_nil hs) hs') fun σ H R ⟨H0, M0, M, ρ, XW, Q3, re, xo, q, k⟩ => ?_
  refine ⟨H0, M0, M, ρ, XW, _, re, xo, q, fun r v H1 qr e1 t1 rr => ?_⟩
  obtain ⟨x, hx, qx⟩ := rr.weak qr
  cases x with
  | int n =>
    obtain ⟨hn, qx⟩ := qx
    cases hx.int
    refine ⟨n, rfl, by omega, by omega, k false _ _ H1 qx e1 t1 (by rw [rgD_len, sizeLine_eq]; omega) fun F _ _ => ?_⟩
    have := walk_rg (X := X) (T := T) (M := M) (F := F) (lo := 0) (hi := n)
    rw [Int.sub_zero] at this
    exact this
  | _ => exact qx.elim
theorem ei_rg2 {wa wb : W} (hg : Gl X "range") (hm : X.mg "range" = none) (ha : PE X a (lift (pm X T) E wa)) (hb : PE X b (lift (pm X T) E wb)) (hs : starEach [a, b] X.env = (false, eval a X.env) :: starEach [b] X.env := by rfl) (hs2 : starEach [b] X.env = (false, eval b X.env) :: starEach [] X.env := by rfl)
    (hs' : starEach [a, b] X.env = [(false, eval a X.env), (false, eval b X.env)] := by rfl) (hs2' : starEach [b] X.env = [(false, eval b X.env)] := by rfl) :
    PI X tg (.Call (.Name "range" p) [a, b] [] pos) (liftI (pm X T) E (wIr2 wa wb)) := by
  refine PIimp (pi_range2 hg hm (pa_cons ha (pa_cons hb pa_nil hs2) hs) hs' hs2') fun σ H R ⟨H0, M0, M, ρ, XW, Q3, re, xo, q, k⟩ => ?_
  refine ⟨H0, M0, M, ρ, XW, _, re, xo, q, fun r v H1 qr e1 t1 rr => ?_⟩
  obtain ⟨x, hx, qx⟩ := rr.weak qr
  refine ⟨H0, M0, M, ρ, XW, _, re.grow e1 t1, xo.grow e1, qx, fun s u H2 qs e2 t2 rs => ?_⟩
  obtain ⟨y, hy, qy⟩ := rs.weak qs
  split at qy
  · obtain ⟨⟨h1, h2, h3, h4⟩, qy⟩ := qy
    cases hx.int
    cases hy.int
    refine ⟨_, _, rfl, ⟨by omega, by omega, by omega, by omega⟩, k false _ _ H2 qy (e1.trans e2) t2 (by rw [rgD_len, sizeLine_eq]; omega) fun F _ _ => walk_rg⟩
  · exact qy.elim
end

/-! ### comprehensions -/
def wipe3 (ρ : Env3) : List Nat → Env3
  | [] => ρ
  | v :: vs => (wipe3 ρ vs).set v none
theorem RE.wipe {P : Pm} {H0 H : Hp} {M0 M : Ad} {σ : St} {ρ : Env3} (r : RE P H0 M0 M H σ ρ) : ∀ vs : List Nat, RE P H0 M0 M H (wipe σ vs) (wipe3 ρ vs)
  | [] => r
  | v :: vs => (RE.wipe r vs).unset v none
theorem RE.addD {P : Pm} {H0 H H' : Hp} {M0 M : Ad} {σ : St} {ρ : Env3} {D : Addr} (r : RE P H0 M0 M H σ ρ) (o : Off H D) (e : ExtN H H') (t : Tabs P.T H') (n : ¬ Off H' D) :
    RE P H0 M0 (fun b => M b ∨ b = D) H' σ ρ where
  ext := r.ext.trans e
  tabs := t
  m0 := fun a m => .inl (r.m0 a m)
  mdom := fun a m => by
    rcases m with m | rfl
    · exact fun z => r.mdom a m (z.back e)
    · exact n
  mown := fun a m => by
    rcases m with m | rfl
    · exact r.mown a m
    · exact .inr (o.back r.ext)
  m0dom := r.m0dom
  slot := fun i y q => by
    obtain ⟨w, h1, h2⟩ := r.slot i y q
    exact ⟨w, h1, h2.more o e⟩
  minf := r.minf
  mind := r.mind
  len := r.len
theorem wipe_at {σ : St} {i : Nat} : ∀ {vs : List Nat}, i ∈ vs → i < σ.length → (wipe σ vs)[i]? = some none
  | [], h, _ => by cases h
  | v :: vs, h, hl => by
    show ((wipe σ vs).set v none)[i]? = some none
    by_cases e : v = i
    · subst e
      rw [List.getElem?_set_self (by rw [wipe_length]; exact hl)]
    · rw [List.getElem?_set_ne e]
      rcases List.mem_cons.mp h with z | z
      · exact absurd z.symm e
      · exact wipe_at z hl
theorem wipe_wipe {σ : St} {vs : List Nat} : wipe (wipe σ vs) vs = wipe σ vs := by
  apply List.ext_getElem?
  intro i
  by_cases h : i ∈ vs
  · by_cases hl : i < σ.length
    · rw [wipe_at h (by rw [wipe_length]; exact hl), wipe_at h hl]
    · rw [List.getElem?_eq_none (by rw [wipe_length, wipe_length]; omega), List.getElem?_eq_none (by rw [wipe_length]; omega)]
  · rw [wipe_out h]
/-- the items of the list that a comprehension makes: item by item, tested, made -/
def lcL (tg : Tg) (tt : WB) (te : W) (ρ : Env3) (Q : List PyData → Prop) : List PyData → List PyData → Prop
  | [], acc => Q acc
  | x :: xs, acc => tgW tg x ρ fun ρ' => tt ρ' (fun b => if b = true then te ρ' (fun r => r.st fun y => lcL tg tt te ρ Q xs (acc ++ [y])) noX else lcL tg tt te ρ Q xs acc) noX
def wLc (it : WI) (tg : Tg) (tt : WB) (te : W) (vs : List Nat) : W := fun ρ Q X => it ρ (fun _ xs => lcL tg tt te (wipe3 ρ vs) (fun ys => Q (.fr ys)) xs []) X
def wYes : WB := fun _ Q _ => Q true
section
variable {X : Cx} {T : List (Addr × Str)} {E : XK}
theorem eb_yes : PTs X [] (liftB (pm X T) E wYes) := ⟨fun pins s σ H Q I ⟨H0, M0, M, ρ, XW, Q3, re, xo, q, k⟩ => pts_nil.run pins s σ H Q I (k true H q (ExtN.refl H) re.tabs)⟩
theorem lc_lift {it : WI} {tg : Tg} {tt : WB} {te : W} {vs : List Nat} (hv : ∀ i ∈ tg.ix, i ∈ vs) {σ : St} {H : Hp} {Q : VK} (h : lift (pm X T) E (wLc it tg tt te vs) σ H Q) :
    tLc (liftI (pm X T) E it) (tgG X.K tg) (liftB (pm X T) E0 tt) (lift (pm X T) E0 te) vs σ H Q := by
  obtain ⟨H0, M0, M, ρ, XW, Q3, re, xo, q, k⟩ := h
  refine ⟨H0, M0, M, ρ, XW, _, re, xo, q, fun wk xs J H1 qx e1 t1 hlen hw D hD => ?_⟩
  obtain ⟨G, Y, walk, hG, hY⟩ := (hw H1 (fun _ => Fm.refl) (fun _ => rfl)).ex
  have offD : Off H1 D := .of_none hD
  have nD : ¬ M D := notM_new re.mdom e1 hD
  -- the heap at a turn: all of H1, and the list so far at D
  let Pv : Nat → Hp → Prop := fun i H' => ExtN H1 H' ∧ Tabs T H' ∧ ∃ acc ys, H' D = some (.lst acc) ∧ acc.length ≤ i ∧ DMs X.K (fun b => M b ∨ b = D) H' acc ys ∧ lcL tg tt te (wipe3 ρ vs) (fun ys => Q3 (.fr ys)) (xs.drop i) ys
  refine lc_it walk Pv ⟨ext_new hD, tabs_new t1 hD, [], [], upd_same, Nat.le_refl _, .nil, qx⟩ (fun i H' _ p => hG H' p.1) ?_ ?_
  · rintro i x H2 H3 hi ⟨e2, t2, acc, ys, hacc, hal, hys, ql⟩ y
    have hM2 : ∀ a, (M a ∨ a = D) → ¬ Off H2 a := fun a m => by
      rcases m with m | rfl
      · exact fun z => re.mdom a m (z.back (e1.trans e2))
      · intro z
        obtain ⟨ps, w⟩ := z _ hacc
        cases w
    obtain ⟨e3, t3, d, hd, dd⟩ := hY i H2 x H3 (fun b => M b ∨ b = D) hi e2 (fun a m => m.imp id fun z => by rw [z]; exact offD) hM2 y
    have hx : xs.drop i = d :: xs.drop (i + 1) := by
      obtain ⟨h1, h2⟩ := List.getElem?_eq_some_iff.mp hd
      rw [← h2]
      exact List.drop_eq_getElem_cons h1
    rw [hx] at ql
    -- the slots of the block, told of the heap without D
    have D3 : H3 D = some (.lst acc) := e3 _ _ hacc (fun ps q => by cases q)
    have reD : RE (pm X T) H0 M0 (fun b => M b ∨ b = D) H3 (L2.wipe σ vs) (wipe3 ρ vs) :=
      (((re.grow e1 t1).addD offD (e2.trans e3) (t3 t2) (fun z => by
        obtain ⟨ps, w⟩ := z _ D3
        cases w))).wipe vs
    have upM : ∀ {H5 : Hp} {v : V}, H5 D = some (.lst acc) → Fm (fun b => M b ∨ b = D) H5 (upd H5 D (.lst (acc ++ [v]))) := fun {H5 v} hD5 c u z nm nt => by
      rw [upd_ne (show c ≠ D from fun w => nm (.inr w))]
      exact z
    have upE : ∀ {H5 : Hp} {v : V}, ExtN H1 H5 → ExtN H1 (upd H5 D (.lst (acc ++ [v]))) := fun {H5 v} e c u z nt => by
      rw [upd_ne (show c ≠ D from fun w => by
        subst w
        obtain ⟨ps, w⟩ := offD _ z
        exact nt ps w)]
      exact e c u z nt
    refine tg_ok tg reD dd ql fun σ2 ρ2 q2 re2 hw2 => ⟨by rw [hw2 vs hv, wipe_wipe], ?_⟩
    refine ⟨H0, M0, _, ρ2, noX, _, re2, XOk.no, q2, fun b H4 qb e4 t4 => ?_⟩
    have D4 : H4 D = some (.lst acc) := e4 _ _ D3 (fun ps q => by cases q)
    cases b with
    | false => exact ⟨((e2.trans e3).trans e4), t4, acc, ys, D4, by omega, DMs.fm (.of (e3.trans e4)) hys, qb⟩
    | true =>
      refine ⟨H0, M0, _, ρ2, noX, _, re2.grow e4 t4, XOk.no, qb, fun r v H5 qr e5 t5 rr => ?_⟩
      obtain ⟨z, hz, qz⟩ := rr.strong (re2.grow e4 t4).mdom qr
      have D5 : H5 D = some (.lst acc) := e5 _ _ D4 (fun ps q => by cases q)
      refine ⟨acc, D5, by omega, upE (((e2.trans e3).trans e4).trans e5), tabs_upd t5 D5, acc ++ [v], ys ++ [z], upd_same, by rw [List.length_append]; show acc.length + 1 ≤ i + 1; omega, ?_, qz⟩
      exact DMs.fm (upM D5) ((DMs.fm (.of ((e3.trans e4).trans e5)) hys).append (.cons hz .nil))
  · rintro H2 ⟨e2, t2, acc, ys, hacc, hal, hys, ql⟩
    rw [List.drop_length] at ql
    exact k _ _ H2 ql (e1.trans e2) t2 ⟨D, acc, rfl, offD.back e1, hacc, hys⟩
end
end T3
set_option linter.all false
set_option maxRecDepth 100000
set_option maxHeartbeats 2000000
set_option Elab.async false
/-! T7: comprehensions as expressions, zip and enumerate, for and while, statements. -/
namespace T3
open L2 LamX PySem PyProof.Rows PySem.Spec

section
variable {X : Cx} {T : List (Addr × Str)} {E : XK} {e a b : Expr} {pos p : Pos} {tg : Expr}
/-- [elt for tg in iter if ..] -/
theorem ev_lc {elt iter : Expr} {ifs : List Expr} {scope : Scope} {own : List (Str × Nat)} {it : WI} {g : Tg} {tt : WB} {te : W} (hc : X.calm = true) (hN : X.N.Nodup) (hi : PI X tg iter (liftI (pm X T) E it)) (ok : BlkOk X.N X.env.scope scope own)
    (hv : ∀ i ∈ g.ix, i ∈ own.map (·.2))
    (hg : ∀ (s : Shared) (H : Hp) (C : Addr) (cl : List (Str × Addr)) (fp : List Addr), PG (X.blk s H scope (compEnvC scope cl C X.env) fp) tg (tgG X.K g))
    (ht : ∀ (s : Shared) (H : Hp) (C : Addr) (cl : List (Str × Addr)) (fp : List Addr), PTs (X.blk s H scope (compEnvC scope cl C X.env) fp) ifs (liftB (pm X T) E0 tt))
    (he : ∀ (s : Shared) (H : Hp) (C : Addr) (cl : List (Str × Addr)) (fp : List Addr), PE (X.blk s H scope (compEnvC scope cl C X.env) fp) elt (lift (pm X T) E0 te)) (hs : ∀ x, foldedSetIterable iter X.env x = pure x := by intro _; rfl) :
    PE X (.ListComp elt [⟨tg, iter, ifs, 0⟩] scope pos) (lift (pm X T) E (wLc it g tt te (own.map (·.2)))) :=
  PEimp (pe_lc hc hN hi ok hg ht he hs) fun _ _ _ h => lc_lift hv h
/-! ### statements that store -/
def R.kp : R → (R → Prop) → Prop := R.ar
/-- x = e, e a tree (the hand, the script) -/
def wSet (i : Nat) (w : W) : WS := fun D ρ X => w ρ (fun r => r.ar fun z => D.nx (ρ.set i (some z))) X
/-- x = e, e a new list that x alone holds -/
def wSetO (i : Nat) (w : W) : WS := fun D ρ X => w ρ (fun r => match r with | .fr xs => D.nx (ρ.set i (some (.own xs))) | .fk kvs => D.nx (ρ.set i (some (.dk kvs))) | _ => False) X
theorem asg_lift {i : Nat} {w : W} {D : Ends} {σ : St} {H : Hp} (h : liftS (pm X T) E (wSet i w) D σ H) : tAsg (lift (pm X T) E w) (gName i) D σ H := by
  obtain ⟨H0, M0, M, ρ, XW, D3, re, q, k⟩ := h
  refine ⟨H0, M0, M, ρ, XW, _, re, k.xo re, q, fun r v H1 qr e1 t1 rr => ?_⟩
  obtain ⟨z, hz, qz⟩ := rr.arg re.mdom qr
  exact k.nx _ M H1 _ qz ((re.grow e1 t1).set i hz)
theorem asgO_lift {i : Nat} {w : W} {D : Ends} {σ : St} {H : Hp} (h : liftS (pm X T) E (wSetO i w) D σ H) : tAsg (lift (pm X T) E w) (gName i) D σ H := by
  obtain ⟨H0, M0, M, ρ, XW, D3, re, q, k⟩ := h
  refine ⟨H0, M0, M, ρ, XW, _, re, k.xo re, q, fun r v H1 qr e1 t1 rr => ?_⟩
  cases r with
  | fr xs =>
    obtain ⟨M', re'⟩ := re.setO e1 t1 i rr
    exact k.nx _ M' H1 _ qr re'
  | fk xs =>
    obtain ⟨M', re'⟩ := re.setK e1 t1 i rr
    exact k.nx _ M' H1 _ qr re'
  | _ => exact qr.elim
theorem es_set {i : Nat} {x : Str} {w : W} {pos' : Pos} (hN : X.N.Nodup) (hi : X.N[i]? = some x) (hx : Loc X.env.scope x) (he : PE X e (lift (pm X T) E w)) (hs : swapsWith e (some (.Name x pos')) pos.line X.env = pure false := by rfl) (hf : X.fn x = true ∨ X.env.scope.names.lookup x = some .local := by first | exact .inl rfl | exact .inr rfl | assumption) :
    PS X (.Assign [.Name x pos'] e pos) (liftS (pm X T) E (wSet i w)) := PSimp (ps_set hN hi hx he hs hf) fun _ _ _ h => asg_lift h
theorem es_setO {i : Nat} {x : Str} {w : W} {pos' : Pos} (hN : X.N.Nodup) (hi : X.N[i]? = some x) (hx : Loc X.env.scope x) (he : PE X e (lift (pm X T) E w)) (hs : swapsWith e (some (.Name x pos')) pos.line X.env = pure false := by rfl) (hf : X.fn x = true ∨ X.env.scope.names.lookup x = some .local := by first | exact .inl rfl | exact .inr rfl | assumption) :
    PS X (.Assign [.Name x pos'] e pos) (liftS (pm X T) E (wSetO i w)) := PSimp (ps_set hN hi hx he hs hf) fun _ _ _ h => asgO_lift h
/-- name = [..] on one line -/
theorem es_setLc {i : Nat} {y : Str} {py : Pos} {elt iter : Expr} {ifs : List Expr} {scope : Scope} {own : List (Str × Nat)} {spos : Pos} {it : WI} {g : Tg} {tt : WB} {te : W} (hc : X.calm = true) (hN : X.N.Nodup) (hy : X.N[i]? = some y) (hyl : X.env.scope.names.lookup y = some .local)
    (hsw : swapsWith (.ListComp elt [⟨tg, iter, ifs, 0⟩] scope pos) (some (.Name y py)) spos.line X.env = pure true) (hi : PI X tg iter (liftI (pm X T) E it)) (ok : BlkOk X.N X.env.scope scope own) (hv : ∀ i ∈ g.ix, i ∈ own.map (·.2))
    (hg : ∀ (s : Shared) (H : Hp) (C : Addr) (cl : List (Str × Addr)) (fp : List Addr), PG (X.blk s H scope (compEnvC scope cl C X.env) fp) tg (tgG X.K g))
    (ht : ∀ (s : Shared) (H : Hp) (C : Addr) (cl : List (Str × Addr)) (fp : List Addr), PTs (X.blk s H scope (compEnvC scope cl C X.env) fp) ifs (liftB (pm X T) E0 tt))
    (he : ∀ (s : Shared) (H : Hp) (C : Addr) (cl : List (Str × Addr)) (fp : List Addr), PE (X.blk s H scope (compEnvC scope cl C X.env) fp) elt (lift (pm X T) E0 te)) (hs : ∀ x, foldedSetIterable iter X.env x = pure x := by intro _; rfl) :
    PS X (.Assign [.Name y py] (.ListComp elt [⟨tg, iter, ifs, 0⟩] scope pos) spos) (liftS (pm X T) E (wSet i (wLc it g tt te (own.map (·.2))))) :=
  PSimp (ps_setLc hc hN hy hyl hsw hi ok hg ht he hs) fun D σ H h => by
    have h' := asg_lift h
    exact lc_lift hv h'
theorem es_setLcO {i : Nat} {y : Str} {py : Pos} {elt iter : Expr} {ifs : List Expr} {scope : Scope} {own : List (Str × Nat)} {spos : Pos} {it : WI} {g : Tg} {tt : WB} {te : W} (hc : X.calm = true) (hN : X.N.Nodup) (hy : X.N[i]? = some y) (hyl : X.env.scope.names.lookup y = some .local)
    (hsw : swapsWith (.ListComp elt [⟨tg, iter, ifs, 0⟩] scope pos) (some (.Name y py)) spos.line X.env = pure true) (hi : PI X tg iter (liftI (pm X T) E it)) (ok : BlkOk X.N X.env.scope scope own) (hv : ∀ i ∈ g.ix, i ∈ own.map (·.2))
    (hg : ∀ (s : Shared) (H : Hp) (C : Addr) (cl : List (Str × Addr)) (fp : List Addr), PG (X.blk s H scope (compEnvC scope cl C X.env) fp) tg (tgG X.K g))
    (ht : ∀ (s : Shared) (H : Hp) (C : Addr) (cl : List (Str × Addr)) (fp : List Addr), PTs (X.blk s H scope (compEnvC scope cl C X.env) fp) ifs (liftB (pm X T) E0 tt))
    (he : ∀ (s : Shared) (H : Hp) (C : Addr) (cl : List (Str × Addr)) (fp : List Addr), PE (X.blk s H scope (compEnvC scope cl C X.env) fp) elt (lift (pm X T) E0 te)) (hs : ∀ x, foldedSetIterable iter X.env x = pure x := by intro _; rfl) :
    PS X (.Assign [.Name y py] (.ListComp elt [⟨tg, iter, ifs, 0⟩] scope pos) spos) (liftS (pm X T) E (wSetO i (wLc it g tt te (own.map (·.2))))) :=
  PSimp (ps_setLc hc hN hy hyl hsw hi ok hg ht he hs) fun D σ H h => by
    have h' := asgO_lift h
    exact lc_lift hv h'
/-- a, b, .. = a tuple -/
def wTg (g : Tg) (w : W) : WS := fun D ρ X => w ρ (fun r => r.st fun x => tgW g x ρ D.nx) X
theorem es_tg {g : Tg} {w : W} (he : PE X e (lift (pm X T) E w)) (hg : PG X tg (tgG X.K g)) (hs : swapsWithSole [tg] e pos.line X.env = pure false := by rfl) (hw : swappedStores [tg] e X.env = pure none := by rfl)
    (h1 : (assignEach [tg] X.env).map (·.2) = [assign tg X.env] := by rfl) : PS X (.Assign [tg] e pos) (liftS (pm X T) E (wTg g w)) := by
  refine PSimp (ps_asg he hg hs hw h1) fun D σ H ⟨H0, M0, M, ρ, XW, D3, re, q, k⟩ => ?_
  refine ⟨H0, M0, M, ρ, XW, _, re, k.xo re, q, fun r v H1 qr e1 t1 rr => ?_⟩
  obtain ⟨x, hx, qx⟩ := rr.strong re.mdom qr
  exact tg_ok g (re.grow e1 t1) hx qx fun σ' ρ' q' re' _ => k.nx _ M H1 _ q' re'
/-! ### several values stored at once -/
def R.slot (o : Bool) (r : R) (k : R → Prop) : Prop := if o = true then (match r with | .fr xs => k (.own xs) | .fk kvs => k (.dk kvs) | _ => False) else r.ar k
abbrev WPs := Env3 → (List R → Prop) → (Exc → Prop) → Prop
def wPnil : WPs := fun _ Q _ => Q []
def wPcons (o : Bool) (w : W) (ws : WPs) : WPs := fun ρ Q X => w ρ (fun r => r.slot o fun z => ws ρ (fun zs => Q (z :: zs)) X) X
/-- values that wait to be stored; ps: where the new lists among them stand -/
inductive Pend (K : PySem.W.Frag) (M : Ad) (H Hb : Hp) : List V → List R → List Addr → Prop
  | nil : Pend K M H Hb [] [] []
  | own {p : Addr} {z : R} {us : List V} {zs : List R} {ps : List Addr} : z.mine → Off Hb p → RS K M H (.ref p) z → p ∉ ps → Pend K M H Hb us zs ps → Pend K M H Hb (.ref p :: us) (z :: zs) (p :: ps)
  | oth {v : V} {z : R} {us : List V} {zs : List R} {ps : List Addr} : RA K M H v z → Pend K M H Hb us zs ps → Pend K M H Hb (v :: us) (z :: zs) ps
def liftPs (P : Pm) (E : XK) (w : WPs) : TA := fun σ H Q => ∃ H0 M0 M ρ XW Q3, RE P H0 M0 M H σ ρ ∧ XOk P E XW M H ∧ w ρ Q3 XW ∧
  ∀ zs vs H' M' ps, Q3 zs → RE P H0 M0 M' H' σ ρ → ExtN H H' → (∀ a, M a → M' a) → (∀ a, M' a → M a ∨ Off H a) → Pend P.K M' H' H vs zs ps → Q vs H'
theorem ep_nil : PA X [] (liftPs (pm X T) E wPnil) := PAimp pa_nil fun σ H Q ⟨H0, M0, M, ρ, XW, Q3, re, xo, q, k⟩ =>
  k [] [] H M [] q re (ExtN.refl H) (fun _ m => m) (fun _ m => .inl m) .nil
theorem Pend.back {K : PySem.W.Frag} {M : Ad} {H Hb Ha : Hp} (e : ExtN Ha Hb) : ∀ {vs : List V} {zs : List R} {ps : List Addr}, Pend K M H Hb vs zs ps → Pend K M H Ha vs zs ps
  | _, _, _, .nil => .nil
  | _, _, _, .own m o h n r => .own m (o.back e) h n (Pend.back e r)
  | _, _, _, .oth h r => .oth h (Pend.back e r)
theorem Pend.offs {K : PySem.W.Frag} {M : Ad} {H Hb : Hp} : ∀ {vs : List V} {zs : List R} {ps : List Addr}, Pend K M H Hb vs zs ps → ∀ p ∈ ps, Off Hb p
  | _, _, _, .nil, p, h => by cases h
  | _, _, _, .own m o _ _ r, p, h => by
    rcases List.mem_cons.mp h with z | z
    · rw [z]; exact o
    · exact Pend.offs r p z
  | _, _, _, .oth _ r, p, h => Pend.offs r p h
theorem RA.off {K : PySem.W.Frag} {M M' : Ad} {F H : Hp} {v : V} {z : R} (h : RA K M F v z) (e : ExtN F H) (m : ∀ a, M' a → M a ∨ Off F a) : RA K M' H v z := by
  cases z with
  | d x => exact DM.off h e m
  | own xs => exact h
  | fr xs => exact h
  | dk xs => exact h
  | fk xs => exact h
  | hand L =>
    obtain ⟨a, e1, c, ns, m1, m2, h1, h2⟩ := h
    exact ⟨a, e1, c, ns, fun z => (m _ z).elim m1 fun o => o.rd (.inl h1) (fun ps q => by cases q) rfl, fun z => (m _ z).elim m2 fun o => o.rd (.inl h2) (fun ps q => by cases q) rfl, e _ _ h1 (fun ps q => by cases q), e _ _ h2 (fun ps q => by cases q)⟩
  | scr ns =>
    obtain ⟨a, e1, h⟩ := h
    exact ⟨a, e1, h.imp (fun ⟨z, o, w⟩ => ⟨fun z' => (m _ z').elim z fun of => of.rd (.inl w) (fun ps q => by cases q) rfl, o, e _ _ w (fun ps q => by cases q)⟩) id⟩
  | adr b => exact h
theorem ep_cons {o : Bool} {es : List Expr} {w : W} {ws : WPs} (he : PE X e (lift (pm X T) E w)) (hr : PA X es (liftPs (pm X T) E ws)) (hs : starEach (e :: es) X.env = (false, eval e X.env) :: starEach es X.env := by rfl) :
    PA X (e :: es) (liftPs (pm X T) E (wPcons o w ws)) := by
  refine PAimp (pa_cons he hr hs) fun σ H Q ⟨H0, M0, M, ρ, XW, Q3, re, xo, q, k⟩ => ?_
  refine ⟨H0, M0, M, ρ, XW, _, re, xo, q, fun r v H1 qr e1 t1 rr => ?_⟩
  unfold R.slot at qr
  split at qr
  · cases r with
    | fr xs =>
      obtain ⟨p, vs, rfl, of, hp, hx⟩ := rr
      have re1 := re.addD of e1 t1 (fun z => by
        obtain ⟨ps, w⟩ := z _ hp
        cases w)
      refine ⟨H0, M0, _, ρ, XW, _, re1, (xo.grow e1).sub (fun b z => .inl z), qr, fun zs us H2 M2 ps q2 re2 e2 m1 m2 pd => ?_⟩
      refine k (.own xs :: zs) (.ref p :: us) H2 M2 (p :: ps) q2 re2 (e1.trans e2) (fun a m => m1 a (.inl m)) (fun a m => ?_) (.own (z := .own xs) trivial of ⟨p, vs, rfl, m1 p (.inr rfl), e2 _ _ hp (fun ps q => by cases q), DMs.off hx e2 m2⟩ (fun z => ?_) (pd.back e1))
      · rcases m2 a m with (z | z) | z
        · exact .inl z
        · rw [z]; exact .inr of
        · exact .inr (z.back e1)
      · obtain ⟨qs, w⟩ := pd.offs p z _ hp
        cases w
    | fk xs =>
      obtain ⟨p, vs, rfl, of, hp, hx⟩ := rr
      have re1 := re.addD of e1 t1 (fun z => by
        obtain ⟨ps, w⟩ := z _ hp
        cases w)
      refine ⟨H0, M0, _, ρ, XW, _, re1, (xo.grow e1).sub (fun b z => .inl z), qr, fun zs us H2 M2 ps q2 re2 e2 m1 m2 pd => ?_⟩
      refine k (.dk xs :: zs) (.ref p :: us) H2 M2 (p :: ps) q2 re2 (e1.trans e2) (fun a m => m1 a (.inl m)) (fun a m => ?_) (.own (z := .dk xs) trivial of ⟨p, vs, rfl, m1 p (.inr rfl), e2 _ _ hp (fun ps q => by cases q), DKs.off hx e2 m2⟩ (fun z => ?_) (pd.back e1))
      · rcases m2 a m with (z | z) | z
        · exact .inl z
        · rw [z]; exact .inr of
        · exact .inr (z.back e1)
      · obtain ⟨qs, w⟩ := pd.offs p z _ hp
        cases w
    | _ => exact qr.elim
  · obtain ⟨z, hz, qz⟩ := rr.arg re.mdom qr
    refine ⟨H0, M0, M, ρ, XW, _, re.grow e1 t1, xo.grow e1, qz, fun zs us H2 M2 ps q2 re2 e2 m1 m2 pd => ?_⟩
    exact k (z :: zs) (v :: us) H2 M2 ps q2 re2 (e1.trans e2) m1 (fun a m => (m2 a m).imp id fun w => w.back e1) (.oth (hz.off e2 m2) (pd.back e1))
/-- what stands already becomes a slot's own -/
theorem RE.setOwn {P : Pm} {H0 H : Hp} {M0 M : Ad} {σ : St} {ρ : Env3} {p : Addr} {z : R} (r : RE P H0 M0 M H σ ρ) (i : Nat) (mz : z.mine) (o : Off H0 p) (hz : RS P.K M H (.ref p) z)
    (n : ∀ (j : Nat) (y : R), y.mine → ρ[j]? = some (some y) → σ[j]? ≠ some (some (.ref p))) : RE P H0 M0 M H (σ.set i (some (.ref p))) (ρ.set i (some z)) := by
  refine ⟨r.ext, r.tabs, r.m0, r.mdom, r.mown, r.m0dom, fun j y q => ?_, fun j y a my q hσ => ?_, fun j k y y2 a my my2 hne q1 q2 hσ => ?_, by rw [List.length_set, List.length_set]; exact r.len⟩
  · rcases set_get q with ⟨e3, e2, hi⟩ | ⟨ne, q⟩
    · subst e3
      cases e2
      exact ⟨.ref p, by rw [List.getElem?_set_self (by rw [← r.len]; exact hi)], hz⟩
    · obtain ⟨w, h1, h2⟩ := r.slot j y q
      exact ⟨w, by rw [List.getElem?_set_ne ne]; exact h1, h2⟩
  · rcases set_get q with ⟨e3, e2, hi⟩ | ⟨ne, q⟩
    · subst e3
      rw [List.getElem?_set_self (by rw [← r.len]; exact hi)] at hσ
      cases hσ
      exact o
    · rw [List.getElem?_set_ne ne] at hσ
      exact r.minf j y a my q hσ
  · rcases set_get q1 with ⟨e3, e2, hi⟩ | ⟨ne1, q1⟩
    · subst e3
      rw [List.getElem?_set_self (by rw [← r.len]; exact hi)] at hσ
      cases hσ
      rcases set_get q2 with ⟨e4, _, _⟩ | ⟨ne2, q2⟩
      · exact absurd e4 hne
      · rw [List.getElem?_set_ne ne2]
        exact n k y2 my2 q2
    · rw [List.getElem?_set_ne ne1] at hσ
      rcases set_get q2 with ⟨e4, e2, hi⟩ | ⟨ne2, q2⟩
      · subst e4
        rw [List.getElem?_set_self (by rw [← r.len]; exact hi)]
        intro z
        cases z
        exact n j y my q1 hσ
      · rw [List.getElem?_set_ne ne2]
        exact r.mind j k y y2 a my my2 hne q1 q2 hσ
def setsV : List Nat → List V → St → St
  | i :: is, v :: vs, σ => setsV is vs (σ.set i (some v))
  | _, _, σ => σ
def setsR : List Nat → List R → Env3 → Env3
  | i :: is, z :: zs, ρ => setsR is zs (ρ.set i (some z))
  | _, _, ρ => ρ
theorem pend_store {P : Pm} {H0 H Hb : Hp} {M0 M : Ad} : ∀ {vs : List V} {zs : List R} {ps : List Addr} (is : List Nat) {σ : St} {ρ : Env3}, RE P H0 M0 M H σ ρ → Pend P.K M H Hb vs zs ps → (∀ p ∈ ps, Off H0 p) →
    (∀ p ∈ ps, ∀ (j : Nat) (y : R), y.mine → ρ[j]? = some (some y) → σ[j]? ≠ some (some (.ref p))) → RE P H0 M0 M H (setsV is vs σ) (setsR is zs ρ)
  | _, _, _, [], σ, ρ, re, _, _, _ => by unfold setsV setsR; exact re
  | _, _, _, _ :: _, σ, ρ, re, .nil, _, _ => by unfold setsV setsR; exact re
  | _, _, _, i :: is, σ, ρ, re, .own (p := p) (z := z) m o hz np r, h0, hn => by
    have re1 := re.setOwn i m (h0 p List.mem_cons_self) hz (hn p List.mem_cons_self)
    refine pend_store is re1 r (fun q hq => h0 q (List.mem_cons_of_mem _ hq)) fun q hq j y my e => ?_
    rcases set_get e with ⟨e3, e2, hi⟩ | ⟨ne, e⟩
    · subst e3
      rw [List.getElem?_set_self (by rw [← re.len]; exact hi)]
      intro z
      cases z
      exact np hq
    · rw [List.getElem?_set_ne ne]
      exact hn q (List.mem_cons_of_mem _ hq) j y my e
  | _, _, _, i :: is, σ, ρ, re, .oth (z := z) h r, h0, hn => by
    refine pend_store is (re.set i h) r h0 fun q hq j y my e => ?_
    rcases set_get e with ⟨e3, e2, hi⟩ | ⟨ne, e⟩
    · cases e2
      exact (RA.not_mine my h).elim
    · rw [List.getElem?_set_ne ne]
      exact hn q hq j y my e
/-- a, b, .. = x, y, .. -/
def wPar (is : List Nat) (ws : WPs) : WS := fun D ρ X => ws ρ (fun zs => zs.length = is.length ∧ D.nx (setsR is zs ρ)) X
theorem Pend.length {K : PySem.W.Frag} {M : Ad} {H Hb : Hp} : ∀ {vs : List V} {zs : List R} {ps : List Addr}, Pend K M H Hb vs zs ps → vs.length = zs.length
  | _, _, _, .nil => rfl
  | _, _, _, .own _ _ _ _ r => by rw [List.length_cons, List.length_cons, Pend.length r]
  | _, _, _, .oth _ r => by rw [List.length_cons, List.length_cons, Pend.length r]
theorem par_lift {is : List Nat} {ws : WPs} {D : Ends} {σ : St} {H : Hp} {Q : List V → Hp → Prop} (h : liftS (pm X T) E (wPar is ws) D σ H) (hQ : ∀ vs H', vs.length = is.length → D.nx (setsV is vs σ) H' → Q vs H') : liftPs (pm X T) E ws σ H Q := by
  obtain ⟨H0, M0, M, ρ, XW, D3, re, q, k⟩ := h
  refine ⟨H0, M0, M, ρ, XW, _, re, k.xo re, q, fun zs vs H' M' ps ⟨hl, q2⟩ re2 e2 m1 m2 pd => hQ vs H' (by rw [pd.length]; exact hl) (k.nx _ M' H' _ q2 (pend_store is re2 pd (fun p hp => (pd.offs p hp).back re.ext) fun p hp j y my e z => ?_))⟩
  obtain ⟨w, h1, h2⟩ := re.slot j _ e
  obtain ⟨b, e1, m, _⟩ := h2.at my
  rw [z] at h1
  cases h1
  cases e1
  exact re.mdom _ m (pd.offs _ hp)
/-- two plain local names -/
theorem es_par {i j : Nat} {x y : Str} {ws : WPs} {px py pt : Pos} {kt k2 pt2} (hc : X.calm = true) (hN : X.N.Nodup) (hi : X.N[i]? = some x) (hj : X.N[j]? = some y) (hij : i ≠ j)
    (hx : X.env.scope.names.lookup x = some .local) (hy : X.env.scope.names.lookup y = some .local) (ha : PA X [a, b] (liftPs (pm X T) E ws))
    (hw : swappedStores [.Tuple [.Name x px, .Name y py] kt pt] (.Tuple [a, b] k2 pt2) X.env = pure (some [x, y]))
    (hs : swapsWithSole [.Tuple [.Name x px, .Name y py] kt pt] (.Tuple [a, b] k2 pt2) pos.line X.env = pure false := by rfl) :
    PS X (.Assign [.Tuple [.Name x px, .Name y py] kt pt] (.Tuple [a, b] k2 pt2) pos) (liftS (pm X T) E (wPar [i, j] ws)) := by
  refine PSimp (ps_par hc hN hi hj hij hx hy ha hw hs) fun D σ H h => ?_
  refine par_lift h fun vs H' hl q => ?_
  match vs, hl with
  | [v, w], _ => exact ⟨v, w, rfl, q⟩
/-- by way of the tuple -/
def gOnes : List Nat → TGs
  | [] => gNil
  | i :: is => gCons (gName i) (gOnes is)
theorem gOnes_ok {Q : St → Hp → Prop} {H : Hp} : ∀ (is : List Nat) (vs : List V) (σ : St), vs.length = is.length → Q (setsV is vs σ) H → gOnes is vs σ H Q
  | [], [], σ, _, q => ⟨rfl, q⟩
  | i :: is, v :: vs, σ, h, q => ⟨v, vs, rfl, gOnes_ok is vs _ (by simpa using h) q⟩
  | [], _ :: _, _, h, _ => by simp at h
  | _ :: _, [], _, h, _ => by simp at h
theorem es_parT {is : List Nat} {es : List Expr} {ws : WPs} {x1} {p2 : Pos} (ha : PA X es (liftPs (pm X T) E ws)) (hg : PG X tg (gTup X.K is.length (gOnes is))) (hn : is.length ≤ sizeLine := by decide) (hs : swapsWithSole [tg] (.Tuple es x1 p2) pos.line X.env = pure false := by rfl)
    (hw : swappedStores [tg] (.Tuple es x1 p2) X.env = pure none := by rfl) (h1 : (assignEach [tg] X.env).map (·.2) = [assign tg X.env] := by rfl) : PS X (.Assign [tg] (.Tuple es x1 p2) pos) (liftS (pm X T) E (wPar is ws)) := by
  refine PSimp (ps_asg (pe_tup ha) hg hs hw h1) fun D σ H h => ?_
  obtain ⟨H0, M0, M, ρ, XW, D3, re, q, k⟩ := h
  refine ⟨H0, M0, M, ρ, XW, _, re, k.xo re, q, fun zs vs H' M' ps ⟨hl, q2⟩ re2 e2 m1 m2 pd => ⟨by rw [pd.length, hl]; exact hn, fun p np => ?_⟩⟩
  have ex := ext_new (o := .tup vs) np
  refine ⟨p, vs, rfl, SqT.of upd_same, by rw [pd.length, hl], gOnes_ok is vs σ (by rw [pd.length, hl]) ?_⟩
  have re3 := pend_store is re2 pd (fun p hp => (pd.offs p hp).back re.ext) (fun p hp j y my e z => by
    obtain ⟨w, h1, h2⟩ := re.slot j _ e
    obtain ⟨b, e1, m, _⟩ := h2.at my
    rw [z] at h1
    cases h1
    cases e1
    exact re.mdom _ m (pd.offs _ hp))
  exact k.nx _ M' _ _ q2 (re3.grow ex (tabs_new re3.tabs np))
end
end T3
set_option linter.all false
set_option maxRecDepth 100000
set_option maxHeartbeats 2000000
set_option Elab.async false
/-! T8: blocks, if, for, while, lists changed in place. -/
namespace T3
open L2 LamX PySem PyProof.Rows PySem.Spec

section
variable {X : Cx} {T : List (Addr × Str)} {E : XK} {e a b : Expr} {pos p : Pos} {tg : Expr}
def wNext : WS := fun D ρ _ => D.nx ρ
def wSeq (a b : WS) : WS := fun D ρ X => a ⟨fun ρ' => b D ρ' X, D.rt, D.bk, D.ct⟩ ρ X
def R.no : R → Prop
  | .own _ => False
  | .dk _ => False
  | _ => True
def wRet (w : W) : WS := fun D ρ X => w ρ (fun r => r.no ∧ D.rt r) X
/-- return x, x a list of the frame's own -/
def wRetO (i : Nat) : WS := fun D ρ _ => ∃ xs, ρ[i]? = some (some (.own xs)) ∧ D.rt (.fr xs)
def wRetN : WS := fun D _ _ => D.rt (.d .none)
def wIfS (c : WB) (a b : WS) : WS := fun D ρ X => c ρ (fun c => if c = true then a D ρ X else b D ρ X) X
def wBrk : WS := fun D ρ _ => D.bk ρ
def wCnt : WS := fun D ρ _ => D.ct ρ
theorem ess_nil : PSs X [] (liftS (pm X T) E wNext) := PSsimp pss_nil fun D σ H ⟨H0, M0, M, ρ, XW, D3, re, q, k⟩ => k.nx ρ M H σ q re
theorem ess_cons {st : Stmt} {rest : List Stmt} {t u : WS} (h1 : PS X st (liftS (pm X T) E t)) (h2 : PSs X rest (liftS (pm X T) E u)) : PSs X (st :: rest) (liftS (pm X T) E (wSeq t u)) :=
  PSsimp (pss_cons h1 h2) fun D σ H ⟨H0, M0, M, ρ, XW, D3, re, q, k⟩ => ⟨H0, M0, M, ρ, XW, _, re, q, fun ρ' M' H' σ' q' re' => ⟨H0, M0, M', ρ', XW, D3, re', q', k⟩, k.bk, k.ct, k.ex, k.rt⟩
theorem ess_one {st : Stmt} {t : WS} (h1 : PS X st (liftS (pm X T) E t)) : PSs X [st] (liftS (pm X T) E t) := pss_one h1
theorem es_pass : PS X (.Pass pos) (liftS (pm X T) E wNext) := PSimp ps_pass fun D σ H ⟨H0, M0, M, ρ, XW, D3, re, q, k⟩ => k.nx ρ M H σ q re
theorem es_brk : PS X (.Break pos) (liftS (pm X T) E wBrk) := PSimp ps_break fun D σ H ⟨H0, M0, M, ρ, XW, D3, re, q, k⟩ => k.bk ρ M H σ q re
theorem es_cnt : PS X (.Continue pos) (liftS (pm X T) E wCnt) := PSimp ps_continue fun D σ H ⟨H0, M0, M, ρ, XW, D3, re, q, k⟩ => k.ct ρ M H σ q re
/-- what leaves a frame -/
theorem RR.out {P : Pm} {H0 H H' : Hp} {M0 M : Ad} {σ : St} {ρ : Env3} {v : V} {r : R} (re : RE P H0 M0 M H σ ρ) (e1 : ExtN H H') (h : RR P.K M H H' v r) :
    r.no → RR P.K M0 H0 H' v r := fun no => by
  cases r with
  | d x => exact DM.anti re.m0 h
  | own xs => exact no.elim
  | fr xs =>
    obtain ⟨p, vs, e2, o, hp, hx⟩ := h
    exact ⟨p, vs, e2, o.back re.ext, hp, DMs.anti (fun b z => z.imp (re.m0 b) id) hx⟩
  | dk xs => exact no.elim
  | fk xs =>
    obtain ⟨p, vs, e2, o, hp, hx⟩ := h
    exact ⟨p, vs, e2, o.back re.ext, hp, DKs.anti (fun b z => z.imp (re.m0 b) id) hx⟩
  | hand L =>
    obtain ⟨a, e2, h⟩ := h
    exact ⟨a, e2, h.anti re.m0⟩
  | scr ns =>
    obtain ⟨a, e2, h⟩ := h
    exact ⟨a, e2, h.anti re.m0⟩
  | adr b => exact h
theorem es_ret {w : W} (he : PE X e (lift (pm X T) E w)) : PS X (.Return (some e) pos) (liftS (pm X T) E (wRet w)) := by
  refine PSimp (ps_ret he) fun D σ H ⟨H0, M0, M, ρ, XW, D3, re, q, k⟩ => ?_
  exact ⟨H0, M0, M, ρ, XW, _, re, k.xo re, q, fun r v H1 qr e1 t1 rr => k.rt r v H1 qr.2 (re.ext.trans e1) t1 (rr.out re e1 qr.1)⟩
theorem es_retO {i : Nat} (h : PE X e (tVar i)) : PS X (.Return (some e) pos) (liftS (pm X T) E (wRetO i)) := by
  refine PSimp (ps_ret h) fun D σ H ⟨H0, M0, M, ρ, XW, D3, re, ⟨xs, hx, q⟩, k⟩ => ?_
  obtain ⟨v, h1, p, vs, rfl, m, hp, hd⟩ := re.slot i _ hx
  exact ⟨_, h1, k.rt _ _ H q re.ext re.tabs ⟨p, vs, rfl, re.ownf i xs p hx h1, hp, DMs.anti (fun b z => by
    rcases z with z | rfl
    · exact re.m0 b z
    · exact m) hd⟩⟩
/-- return x, x a dict of the frame's own -/
def wRetK (i : Nat) : WS := fun D ρ _ => ∃ xs, ρ[i]? = some (some (.dk xs)) ∧ D.rt (.fk xs)
theorem es_retK {i : Nat} (h : PE X e (tVar i)) : PS X (.Return (some e) pos) (liftS (pm X T) E (wRetK i)) := by
  refine PSimp (ps_ret h) fun D σ H ⟨H0, M0, M, ρ, XW, D3, re, ⟨xs, hx, q⟩, k⟩ => ?_
  obtain ⟨v, h1, p, vs, rfl, m, hp, hd⟩ := re.slot i _ hx
  exact ⟨_, h1, k.rt _ _ H q re.ext re.tabs ⟨p, vs, rfl, re.minf i (.dk xs) p trivial hx h1, hp, DKs.anti (fun b z => by
    rcases z with z | rfl
    · exact re.m0 b z
    · exact m) hd⟩⟩
theorem es_retN : PS X (.Return none pos) (liftS (pm X T) E wRetN) := PSimp ps_retN fun D σ H ⟨H0, M0, M, ρ, XW, D3, re, q, k⟩ => k.rt (.d .none) .non H q re.ext re.tabs .non
theorem es_if {c : Expr} {sa sb : List Stmt} {wc : WB} {wa wb : WS} (hc : PT X c (liftB (pm X T) E wc)) (ha : PSs X sa (liftS (pm X T) E wa)) (hb : PSs X sb (liftS (pm X T) E wb)) : PS X (.If c sa sb pos) (liftS (pm X T) E (wIfS wc wa wb)) :=
  PSimp (ps_if hc ha hb) fun D σ H ⟨H0, M0, M, ρ, XW, D3, re, q, k⟩ => ⟨H0, M0, M, ρ, XW, _, re, k.xo re, q, fun c H1 qc e1 t1 => by
    cases c with
    | true => exact ⟨H0, M0, M, ρ, XW, D3, re.grow e1 t1, qc, k⟩
    | false => exact ⟨H0, M0, M, ρ, XW, D3, re.grow e1 t1, qc, k⟩⟩
/-- an expression for what it may raise -/
def wDrop (w : W) : WS := fun D ρ X => w ρ (fun _ => D.nx ρ) X
theorem es_drop {w : W} (he : PE X e (lift (pm X T) E w)) (hs : swapsWith e none pos.line X.env = pure false := by rfl) : PS X (.Expr e pos) (liftS (pm X T) E (wDrop w)) :=
  PSimp (ps_expr he hs) fun D σ H ⟨H0, M0, M, ρ, XW, D3, re, q, k⟩ => ⟨H0, M0, M, ρ, XW, _, re, k.xo re, q, fun r v H1 qr e1 t1 rr => k.nx ρ M H1 σ qr (re.grow e1 t1)⟩
/-- a list of the frame's own is looked upon as a tree from here on (no code) -/
def wFrz (i : Nat) (a : WS) : WS := fun D ρ X => ∃ xs, ρ[i]? = some (some (.own xs)) ∧ a D (ρ.set i (some (.d (.list xs)))) X
theorem ess_frz {i : Nat} {sts : List Stmt} {w : WS} (h : PSs X sts (liftS (pm X T) E w)) : PSs X sts (liftS (pm X T) E (wFrz i w)) := PSsimp h fun D σ H ⟨H0, M0, M, ρ, XW, D3, re, ⟨xs, hx, q⟩, k⟩ => by
  obtain ⟨M', re'⟩ := re.freeze hx
  exact ⟨H0, M0, M', _, XW, D3, re', q, k⟩
/-- .. a dict -/
def wFrzK (i : Nat) (a : WS) : WS := fun D ρ X => ∃ xs, ρ[i]? = some (some (.dk xs)) ∧ a D (ρ.set i (some (.d (.dict (dictD xs))))) X
theorem ess_frzK {i : Nat} {sts : List Stmt} {w : WS} (h : PSs X sts (liftS (pm X T) E w)) : PSs X sts (liftS (pm X T) E (wFrzK i w)) := PSsimp h fun D σ H ⟨H0, M0, M, ρ, XW, D3, re, ⟨xs, hx, q⟩, k⟩ => by
  obtain ⟨M', re'⟩ := re.freezeK hx
  exact ⟨H0, M0, M', _, XW, D3, re', q, k⟩

/-! ### loops -/
def forL (tg : Tg) (body : WS) (D : End3) (X : Exc → Prop) : List PyData → Env3 → Prop
  | [], ρ => D.nx ρ
  | x :: xs, ρ => tgW tg x ρ fun ρ1 => body ⟨forL tg body D X xs, D.rt, D.nx, forL tg body D X xs⟩ ρ1 X
def wFor (it : WI) (tg : Tg) (body : WS) : WS := fun D ρ X => it ρ (fun wk xs => wk = false ∧ forL tg body D X xs ρ) X
theorem es_for {iter : Expr} {body : List Stmt} {it : WI} {g : Tg} {wb : WS} (hp : PassesOwn (model X.prog X.w) X.A X.env X.xe) (hc : X.calm = true) (hi : PI X tg iter (liftI (pm X T) E it)) (hg : PG X tg (tgG X.K g)) (hb : PSs X body (liftS (pm X T) E wb))
    (hs : ∀ x, foldedSetIterable iter X.env x = pure x := by intro _; rfl) : PS X (.For tg iter body [] pos) (liftS (pm X T) E (wFor it g wb)) := by
  refine PSimp (ps_for hp hc hi hg hb hs) fun D σ H ⟨H0, M0, M, ρ, XW, D3, re, q, k⟩ => ?_
  refine ⟨H0, M0, M, ρ, XW, _, re, k.xo re, q, fun wk xs J H1 ⟨hwk, qx⟩ e1 t1 hlen hw => ?_⟩
  subst hwk
  have re1 := re.grow e1 t1
  obtain ⟨G, Y, walk, hG, hY⟩ := (hw (rest0 M0 M H1) (fun _ => re1.fm0) (fun z => by cases z)).ex
  let Pv : Nat → St → Hp → Prop := fun i σ' H' => ∃ M' ρ', RE (pm X T) (rest0 M0 M H1) M0 M' H' σ' ρ' ∧ forL g wb D3 XW (xs.drop i) ρ'
  refine for_it walk Pv ⟨M, ρ, re1.rebase, qx⟩ (fun i σ' H' _ ⟨M', ρ', r, _⟩ => hG H' r.ext) ?_ ?_
  · rintro i x σ' H2 H3 hi ⟨M', ρ', r, ql⟩ y
    obtain ⟨e3, t3, d, hd, dd⟩ := hY i H2 x H3 M' hi r.ext (fun a m => (r.mown a m).imp (re1.m0 a) id) r.mdom y
    have hx : xs.drop i = d :: xs.drop (i + 1) := by
      obtain ⟨h1, h2⟩ := List.getElem?_eq_some_iff.mp hd
      rw [← h2]
      exact List.drop_eq_getElem_cons h1
    rw [hx] at ql
    refine tg_ok g (r.grow e3 (t3 r.tabs)) dd ql fun σ4 ρ4 q4 re4 _ => ?_
    refine ⟨_, M0, M', ρ4, XW, _, re4, q4, fun ρ5 M5 H5 σ5 q5 re5 => ⟨M5, ρ5, re5, q5⟩, fun ρ5 M5 H5 σ5 q5 re5 => k.nx ρ5 M5 H5 σ5 q5 (re1.unbase re5), fun ρ5 M5 H5 σ5 q5 re5 => ⟨M5, ρ5, re5, q5⟩, fun x cls d H' hx e t r => k.ex x cls d H' hx (re1.own0.trans e) t r, fun r v H5 q5 e5 t5 rr => ?_⟩
    refine k.rt r v H5 q5 (re1.own0.trans e5) t5 ?_
    exact rr.back re1.own0
  · rintro σ' H' ⟨M', ρ', r, ql⟩
    rw [List.drop_length] at ql
    exact k.nx ρ' M' H' σ' ql (re1.unbase r)
/-- while c: body, by an invariant and a measure -/
def wWhile (c : WB) (body : WS) : WS := fun D ρ X => ∃ I : Nat → Env3 → Prop, (∃ m, I m ρ) ∧ ∀ m ρ, I m ρ → c ρ (fun b => if b = true then body ⟨fun ρ' => ∃ m', m' < m ∧ I m' ρ', D.rt, D.nx, fun ρ' => ∃ m', m' < m ∧ I m' ρ'⟩ ρ X else D.nx ρ) X
theorem es_while {c : Expr} {body : List Stmt} {wc : WB} {wb : WS} (hp : PassesOwn (model X.prog X.w) X.A X.env X.xe) (hc : PT X c (liftB (pm X T) E wc)) (hb : PSs X body (liftS (pm X T) E wb)) : PS X (.While c body [] pos) (liftS (pm X T) E (wWhile wc wb)) := by
  refine PSimp (ps_while hp hc hb) fun D σ H ⟨H0, M0, M, ρ, XW, D3, re, ⟨I, ⟨m0, i0⟩, turn⟩, k⟩ => ?_
  refine ⟨fun m σ' H' => ∃ M' ρ', RE (pm X T) H0 M0 M' H' σ' ρ' ∧ I m ρ', ⟨m0, M, ρ, re, i0⟩, ?_⟩
  rintro m σ' H' ⟨M', ρ', r, hI⟩
  refine ⟨H0, M0, M', ρ', XW, _, r, k.xo r, turn m ρ' hI, fun b H1 qb e1 t1 => ?_⟩
  cases b with
  | false => exact k.nx ρ' M' H1 σ' qb (r.grow e1 t1)
  | true =>
    refine ⟨fun σ2 H2 => ∃ m', m' < m ∧ ∃ M2 ρ2, RE (pm X T) H0 M0 M2 H2 σ2 ρ2 ∧ I m' ρ2, fun σ2 H2 ⟨m', hm, M2, ρ2, r2, h2⟩ => ⟨m', hm, M2, ρ2, r2, h2⟩, ?_⟩
    refine ⟨H0, M0, M', ρ', XW, _, r.grow e1 t1, qb, fun ρ5 M5 H5 σ5 ⟨m', hm, h5⟩ re5 => ⟨m', hm, M5, ρ5, re5, h5⟩, fun ρ5 M5 H5 σ5 q5 re5 => k.nx ρ5 M5 H5 σ5 q5 re5, fun ρ5 M5 H5 σ5 ⟨m', hm, h5⟩ re5 => ⟨m', hm, M5, ρ5, re5, h5⟩, k.ex, k.rt⟩

/-! ### a list of the frame's own, changed in place -/
theorem tyl {K : PySem.W.Frag} {H : Hp} {a : Addr} {vs : List V} (h : H a = some (.lst vs)) : tyV K "list" (.ref a) H := .inl ⟨rfl, vs, SqL.of h⟩
/-- x.append(e) -/
def wApp (i : Nat) (w : W) : WS := fun D ρ X => ∃ xs, ρ[i]? = some (some (.own xs)) ∧ w ρ (fun r => r.st fun x => xs.length < sizeLine ∧ D.nx (ρ.set i (some (.own (xs ++ [x]))))) X
theorem es_app {i : Nat} {w : W} {apos cpos : Pos} (ho : PE X a (tVar i)) (he : PE X e (lift (pm X T) E w)) (hs : starEach [e] X.env = (false, eval e X.env) :: starEach [] X.env := by rfl)
    (hbase : attributeBase a "append" X.env (eval a X.env) = eval a X.env := by rfl)
    (hfew : ((backTo cpos (starEach [e] X.env)).all (fun x => !x.1) && (backToKw cpos (keywordEach [] X.env)).all (fun x => x.1.isSome) && decide ([e].length + ([] : List Keyword).length + (if ([] : List Keyword).isEmpty then 0 else 1) < 30)) = true := by rfl)
    (hline : (apos.endLine == cpos.line) = true := by rfl) (hplain : (backTo cpos (starEach [] X.env)).any (·.1) = false := by rfl)
    (hsw : swapsWith (.Call (.Attribute a "append" apos) [e] [] cpos) none pos.line X.env = pure false := by rfl) :
    PS X (.Expr (.Call (.Attribute a "append" apos) [e] [] cpos) pos) (liftS (pm X T) E (wApp i w)) := by
  refine PSimp (ps_expr (pe_bm PySem.F.plainAttrs_list PySem.F.slot_list_append PySem.F.type_list_append mt_append ho (pa_cons he pa_nil hs) hbase hfew hline hs hplain) hsw) fun D σ H ⟨H0, M0, M, ρ, XW, D3, re, ⟨xs, hx, q⟩, k⟩ => ?_
  obtain ⟨v, h1, p, vs, rfl, m, hp, hd⟩ := re.slot i _ hx
  refine ⟨_, h1, tyl hp, H0, M0, M, ρ, XW, _, re, k.xo re, q, fun r u H1 qr e1 t1 rr => ?_⟩
  obtain ⟨x, hx', hl, qx⟩ := rr.strong re.mdom qr
  have re1 := re.grow e1 t1
  have hp1 : H1 p = some (.lst vs) := e1 _ _ hp (fun ps q => by cases q)
  exact ⟨p, vs, u, rfl, rfl, hp1, by rw [hd.length]; exact hl, k.nx _ M _ σ qx (re1.upd hx h1 ((DMs.fm (.of e1) hd).append (.cons hx' .nil)))⟩
/-- x.extend(e) -/
def wExt (i : Nat) (w : W) : WS := fun D ρ X => ∃ xs, ρ[i]? = some (some (.own xs)) ∧ w ρ (fun r => r.wk fun y => match y with | .list ys => xs.length + ys.length ≤ sizeLine ∧ D.nx (ρ.set i (some (.own (xs ++ ys)))) | _ => False) X
theorem es_ext {i : Nat} {w : W} {apos cpos : Pos} (ho : PE X a (tVar i)) (he : PE X e (lift (pm X T) E w)) (hs : starEach [e] X.env = (false, eval e X.env) :: starEach [] X.env := by rfl)
    (hbase : attributeBase a "extend" X.env (eval a X.env) = eval a X.env := by rfl)
    (hfew : ((backTo cpos (starEach [e] X.env)).all (fun x => !x.1) && (backToKw cpos (keywordEach [] X.env)).all (fun x => x.1.isSome) && decide ([e].length + ([] : List Keyword).length + (if ([] : List Keyword).isEmpty then 0 else 1) < 30)) = true := by rfl)
    (hline : (apos.endLine == cpos.line) = true := by rfl) (hplain : (backTo cpos (starEach [] X.env)).any (·.1) = false := by rfl)
    (hsw : swapsWith (.Call (.Attribute a "extend" apos) [e] [] cpos) none pos.line X.env = pure false := by rfl) :
    PS X (.Expr (.Call (.Attribute a "extend" apos) [e] [] cpos) pos) (liftS (pm X T) E (wExt i w)) := by
  refine PSimp (ps_expr (pe_bm PySem.F.plainAttrs_list PySem.F.slot_list_extend PySem.F.type_list_extend mt_extend ho (pa_cons he pa_nil hs) hbase hfew hline hs hplain) hsw) fun D σ H ⟨H0, M0, M, ρ, XW, D3, re, ⟨xs, hx, q⟩, k⟩ => ?_
  obtain ⟨v, h1, p, vs, rfl, m, hp, hd⟩ := re.slot i _ hx
  refine ⟨_, h1, tyl hp, H0, M0, M, ρ, XW, _, re, k.xo re, q, fun r u H1 qr e1 t1 rr => ?_⟩
  obtain ⟨y, hy, qy⟩ := rr.weak qr
  have re1 := re.grow e1 t1
  have hp1 : H1 p = some (.lst vs) := e1 _ _ hp (fun ps q => by cases q)
  cases y with
  | list ys =>
    obtain ⟨b, ws, rfl, hb, hw⟩ := hy.lst
    exact ⟨p, b, vs, ws, rfl, rfl, hp1, hb, by rw [hd.length, hw.length]; exact qy.1, k.nx _ M _ σ qy.2 (re1.upd hx h1 ((DMs.fm (.of e1) hd).append hw))⟩
  | _ => exact qy.elim
/-- x[k] = v -/
def wSetIx (i : Nat) (wi wv : W) : WS := fun D ρ X => wv ρ (fun r => r.st fun y => ∃ xs, ρ[i]? = some (some (.own xs)) ∧ wi ρ (fun s => s.wk fun t => match t with
  | .int k => ∃ j, ixN xs.length k = some j ∧ D.nx (ρ.set i (some (.own (xs.set j y))))
  | _ => False) X) X
theorem es_setIx {i : Nat} {wi wv : W} {v : Expr} {spos : Pos} (hv : PE X v (lift (pm X T) E wv)) (ho : PE X a (tVar i)) (hk : PE X b (lift (pm X T) E wi))
    (ha : ∀ v, assign (.Subscript a b spos) X.env v = (do
      let ov ← holding [v] (eval a X.env)
      let iv ← holding [v, ov] (eval b X.env)
      standAt spos
      holding [v, ov, iv] (setItem ov iv v)
      release [v, ov, iv] []) := by intro _; rfl)
    (hs : swapsWithSole [.Subscript a b spos] v pos.line X.env = pure false := by rfl) (hw : swappedStores [.Subscript a b spos] v X.env = pure none := by rfl)
    (h1 : (assignEach [.Subscript a b spos] X.env).map (·.2) = [assign (.Subscript a b spos) X.env] := by rfl) :
    PS X (.Assign [.Subscript a b spos] v pos) (liftS (pm X T) E (wSetIx i wi wv)) := by
  refine PSimp (ps_asg hv (pg_sub ho hk set_list ha) hs hw h1) fun D σ H ⟨H0, M0, M, ρ, XW, D3, re, q, k⟩ => ?_
  refine ⟨H0, M0, M, ρ, XW, _, re, k.xo re, q, fun r u H1 qr e1 t1 rr => ?_⟩
  obtain ⟨y, hy, xs, hx, qy⟩ := rr.strong re.mdom qr
  have re1 := re.grow e1 t1
  obtain ⟨v', h1, p, vs, rfl, m, hp, hd⟩ := re1.slot i _ hx
  refine ⟨_, h1, H0, M0, M, ρ, XW, _, re1, k.xo re1, qy, fun s w H2 qs e2 t2 rs => ?_⟩
  obtain ⟨t, ht, qt⟩ := rs.weak qs
  have re2 := re1.grow e2 t2
  have hp2 : H2 p = some (.lst vs) := e2 _ _ hp (fun ps q => by cases q)
  cases t with
  | int n =>
    obtain ⟨j, hj, qj⟩ := qt
    exact ⟨p, vs, n, j, rfl, ht.int, hp2, by rw [hd.length]; exact hj, k.nx _ M _ σ qj (re2.upd hx h1 ((DMs.fm (.of e2) hd).set (DM.fm (.of e2) hy) j))⟩
  | _ => exact qt.elim
theorem get_list : PGet X (rIxL X.K) := by
  intro pins s σ H o i ov iv Q I ro ri h
  obtain ⟨p, xs, k, z, rfl, rfl, hq, he, q⟩ := h
  cases ro
  obtain ⟨t, rfl⟩ := ri
  obtain ⟨its, r, pl, hz⟩ := I.list hq
  obtain ⟨j, h1, h2, h3, h4, h5⟩ := atI_get he
  obtain ⟨w, ew, rw'⟩ := r.get h2
  have hl := r.length
  have hn := line63
  have fin : EP X pins σ Q w s := ⟨z, H, I, rw', q⟩
  by_cases h0 : 0 ≤ k
  · have hj : k.toNat = j := by
      rw [seqIndex_of h0 h5] at h1
      exact Option.some.inj h1
    exact wpAny_getItem_list pl.isList h0 (by omega) (by rw [hj]; simpa using ew) fin
  · have hj : (k + (its.toArray.size : Int)).toNat = j := by
      rw [seqIndex_neg (by omega) h4] at h1
      rw [List.size_toArray, ← hl]
      exact Option.some.inj h1
    exact wpAny_getItem_list_neg pl.isList (by omega) (by rw [List.size_toArray]; omega) (by omega) (by rw [hj]; simpa using ew) fin
/-- x[k] op= e, ints -/
def wAugIx (f : Int → Int → Int) (i : Nat) (wi we : W) : WS := fun D ρ X => ∃ xs, ρ[i]? = some (some (.own xs)) ∧ wi ρ (fun s => s.wk fun t => match t with
  | .int k => ∃ j m, ixN xs.length k = some j ∧ xs[j]? = some (.int m) ∧ we ρ (fun r => r.wk fun y => match y with
    | .int n => D.nx (ρ.set i (some (.own (xs.set j (.int (f m n))))))
    | _ => False) X
  | _ => False) X
theorem es_augIx {op : Operator} {f : Int → Int → Int} {i : Nat} {wi we : W} {v : Expr} {tpos : Pos} (hop : PIp X op (ipI f)) (ho : PE X a (tVar i)) (hk : PE X b (lift (pm X T) E wi)) (hv : PE X v (lift (pm X T) E we))
    (ha : ∀ ov iv new, augStore b ov iv new = (do holding [new, ov, iv] (setItem ov iv new); release [new, ov, iv] []; pure .next) := by intros; rfl) :
    PS X (.AugAssign (.Subscript a b tpos) op v pos) (liftS (pm X T) E (wAugIx f i wi we)) := by
  refine PSimp (ps_augS ho hk get_list hv hop set_list ha) fun D σ H ⟨H0, M0, M, ρ, XW, D3, re, ⟨xs, hx, q⟩, k⟩ => ?_
  obtain ⟨v', h1, p, vs, rfl, m, hp, hd⟩ := re.slot i _ hx
  refine ⟨_, h1, H0, M0, M, ρ, XW, _, re, k.xo re, q, fun s w H1 qs e1 t1 rs => ?_⟩
  obtain ⟨t, ht, qt⟩ := rs.weak qs
  have re1 := re.grow e1 t1
  have hp1 : H1 p = some (.lst vs) := e1 _ _ hp (fun ps q => by cases q)
  cases t with
  | int n =>
    obtain ⟨j, m', hj, hm, qe⟩ := qt
    have hd1 := DMs.fm (.of e1) hd
    obtain ⟨u, hu, du⟩ := hd1.at hm
    cases du
    refine ⟨p, vs, n, .int m', rfl, ht.int, SqL.of hp1, ?_, H0, M0, M, ρ, XW, _, re1, k.xo re1, qe, fun r w2 H2 q2 e2 t2 r2 => ?_⟩
    · unfold L2.atI
      rw [hd.length, hj]
      exact hu
    · obtain ⟨y, hy, qy⟩ := r2.weak q2
      have re2 := re1.grow e2 t2
      have hp2 : H2 p = some (.lst vs) := e2 _ _ hp1 (fun ps q => by cases q)
      cases y with
      | int n2 =>
        exact ⟨m', n2, rfl, hy.int, p, vs, n, j, rfl, ht.int, hp2, by rw [hd.length]; exact hj, k.nx _ M _ σ qy (re2.upd hx h1 ((DMs.fm (.of e2) hd1).set (.int _) j))⟩
      | _ => exact qy.elim
  | _ => exact qt.elim
/-- x op= e, ints -/
def wAug (f : Int → Int → Int) (i : Nat) (we : W) : WS := fun D ρ X => ∃ m, ρ[i]? = some (some (.d (.int m))) ∧ we ρ (fun r => r.wk fun y => match y with
  | .int n => D.nx (ρ.set i (some (.d (.int (f m n)))))
  | _ => False) X
theorem es_aug {op : Operator} {f : Int → Int → Int} {i : Nat} {x : Str} {we : W} {pos' : Pos} (hN : X.N.Nodup) (hi : X.N[i]? = some x) (hx : Loc X.env.scope x) (he : PE X e (lift (pm X T) E we)) (ho : PIp X op (ipI f)) (hf : X.fn x = true ∨ X.env.scope.names.lookup x = some .local := by first | exact .inl rfl | exact .inr rfl | assumption) :
    PS X (.AugAssign (.Name x pos') op e pos) (liftS (pm X T) E (wAug f i we)) := by
  refine PSimp (ps_aug hN hi hx he ho hf) fun D σ H ⟨H0, M0, M, ρ, XW, D3, re, ⟨m, hm, q⟩, k⟩ => ?_
  obtain ⟨v, h1, h2⟩ := re.slot i _ hm
  cases h2
  refine ⟨_, h1, H0, M0, M, ρ, XW, _, re, k.xo re, q, fun r u H1 qr e1 t1 rr => ?_⟩
  obtain ⟨y, hy, qy⟩ := rr.weak qr
  cases y with
  | int n => exact ⟨m, n, rfl, hy.int, k.nx _ M H1 _ qy ((re.grow e1 t1).set i (z := .d (.int _)) (.int _))⟩
  | _ => exact qy.elim
/-- f.append(l.pop(k)) -/
def wAppPop (f l : Nat) (wk : W) : WS := fun D ρ X => ∃ fs ls, f ≠ l ∧ ρ[f]? = some (some (.own fs)) ∧ ρ[l]? = some (some (.own ls)) ∧ wk ρ (fun s => s.wk fun t => match t with
  | .int n => (-(2 ^ 63) ≤ n ∧ n < 2 ^ 63 ∧ fs.length < sizeLine) ∧ ∃ j y, ixN ls.length n = some j ∧ ls[j]? = some y ∧ D.nx ((ρ.set l (some (.own (ls.eraseIdx j)))).set f (some (.own (fs ++ [y]))))
  | _ => False) X
theorem DMs.erase {K : PySem.W.Frag} {M : Ad} {H : Hp} : ∀ {vs : List V} {ds : List PyData} (i : Nat), DMs K M H vs ds → DMs K M H (vs.eraseIdx i) (ds.eraseIdx i)
  | _, _, _, .nil => .nil
  | _, _, 0, .cons _ r => r
  | _, _, i + 1, .cons h r => .cons h (DMs.erase i r)
theorem es_appPop {f l : Nat} {wk : W} {c : Expr} {apos cpos apos2 cpos2 : Pos} (ho : PE X a (tVar f)) (hl : PE X c (tVar l)) (he : PE X e (lift (pm X T) E wk)) (hs : starEach [e] X.env = (false, eval e X.env) :: starEach [] X.env := by rfl)
    (hs2 : starEach [.Call (.Attribute c "pop" apos2) [e] [] cpos2] X.env = (false, eval (.Call (.Attribute c "pop" apos2) [e] [] cpos2) X.env) :: starEach [] X.env := by rfl)
    (hbase : attributeBase a "append" X.env (eval a X.env) = eval a X.env := by rfl)
    (hfew : ((backTo cpos (starEach [.Call (.Attribute c "pop" apos2) [e] [] cpos2] X.env)).all (fun x => !x.1) && (backToKw cpos (keywordEach [] X.env)).all (fun x => x.1.isSome) && decide (([.Call (.Attribute c "pop" apos2) [e] [] cpos2] : List Expr).length + ([] : List Keyword).length + (if ([] : List Keyword).isEmpty then 0 else 1) < 30)) = true := by rfl)
    (hline : (apos.endLine == cpos.line) = true := by rfl) (hplain : (backTo cpos (starEach [] X.env)).any (·.1) = false := by rfl)
    (hbase2 : attributeBase c "pop" X.env (eval c X.env) = eval c X.env := by rfl)
    (hfew2 : ((backTo cpos2 (starEach [e] X.env)).all (fun x => !x.1) && (backToKw cpos2 (keywordEach [] X.env)).all (fun x => x.1.isSome) && decide ([e].length + ([] : List Keyword).length + (if ([] : List Keyword).isEmpty then 0 else 1) < 30)) = true := by rfl)
    (hline2 : (apos2.endLine == cpos2.line) = true := by rfl) (hplain2 : (backTo cpos2 (starEach [] X.env)).any (·.1) = false := by rfl)
    (hsw : swapsWith (.Call (.Attribute a "append" apos) [.Call (.Attribute c "pop" apos2) [e] [] cpos2] [] cpos) none pos.line X.env = pure false := by rfl) :
    PS X (.Expr (.Call (.Attribute a "append" apos) [.Call (.Attribute c "pop" apos2) [e] [] cpos2] [] cpos) pos) (liftS (pm X T) E (wAppPop f l wk)) := by
  refine PSimp (ps_expr (pe_bm PySem.F.plainAttrs_list PySem.F.slot_list_append PySem.F.type_list_append mt_append ho (pa_cons (pe_bm PySem.F.plainAttrs_list PySem.F.slot_list_pop PySem.F.type_list_pop mt_popAt hl (pa_cons he pa_nil hs) hbase2 hfew2 hline2 hs hplain2) pa_nil hs2) hbase hfew hline hs2 hplain) hsw)
    fun D σ H ⟨H0, M0, M, ρ, XW, D3, re, ⟨fs, ls, hne, hf, hl, q⟩, k⟩ => ?_
  obtain ⟨v, h1, p, vs, rfl, m, hp, hd⟩ := re.slot f _ hf
  obtain ⟨v2, h2, p2, vs2, rfl, m2, hp2, hd2⟩ := re.slot l _ hl
  have pne : p ≠ p2 := fun z => by
    subst z
    exact re.ownd f l fs ls p hne hf hl h1 h2
  refine ⟨_, h1, tyl hp, _, h2, tyl hp2, H0, M0, M, ρ, XW, _, re, k.xo re, q, fun s w H1 qs e1 t1 rs => ?_⟩
  obtain ⟨t, ht, qt⟩ := rs.weak qs
  have re1 := re.grow e1 t1
  have hp1 : H1 p = some (.lst vs) := e1 _ _ hp (fun ps q => by cases q)
  have hp21 : H1 p2 = some (.lst vs2) := e1 _ _ hp2 (fun ps q => by cases q)
  have hd1 := DMs.fm (.of e1) hd
  have hd21 := DMs.fm (.of e1) hd2
  cases t with
  | int n =>
    obtain ⟨⟨c1, c2, c3⟩, j, y, hj, hy, qq⟩ := qt
    obtain ⟨u, hu, du⟩ := hd21.at hy
    have re2 := re1.upd hl h2 (hd21.erase j)
    have fm : Fm M H1 (upd H1 p2 (.lst (vs2.eraseIdx j))) := fun c' u' z nm nt => by
      rw [upd_ne (show c' ≠ p2 from fun w => nm (by rw [w]; exact m2))]
      exact z
    have hf2 : (ρ.set l (some (.own (ls.eraseIdx j))))[f]? = some (some (.own fs)) := by
      rw [List.getElem?_set_ne (Ne.symm hne)]
      exact hf
    refine ⟨p2, vs2, n, j, u, rfl, by rw [ht.int], hp21, c1, c2, ?_, hu, p, vs, u, rfl, rfl, ?_, by rw [hd.length]; exact c3, ?_⟩
    · rw [hd2.length]
      exact (ixN_seq hj).1
    · rw [upd_ne pne]
      exact hp1
    · exact k.nx _ M _ σ qq (re2.upd hf2 h1 ((DMs.fm fm hd1).append (.cons (DM.fm fm du) .nil)))
  | _ => exact qt.elim
/-- t = l.pop(), l.pop(0): o false, true -/
def wPop (l : Nat) (front : Bool) (g : Tg) : WS := fun D ρ _ => ∃ ls j y, ρ[l]? = some (some (.own ls)) ∧ j = (if front = true then 0 else ls.length - 1) ∧ ls[j]? = some y ∧ tgW g y (ρ.set l (some (.own (ls.eraseIdx j)))) D.nx
theorem dropLast_erase {α : Type} : ∀ (l : List α), l.dropLast = l.eraseIdx (l.length - 1)
  | [] => rfl
  | [_] => rfl
  | a :: b :: l => by
    have h := dropLast_erase (b :: l)
    show a :: (b :: l).dropLast = (a :: b :: l).eraseIdx (l.length + 1)
    rw [h]
    rfl
theorem es_pop {l : Nat} {g : Tg} {apos cpos : Pos} (ho : PE X a (tVar l)) (hg : PG X tg (tgG X.K g)) (hbase : attributeBase a "pop" X.env (eval a X.env) = eval a X.env := by rfl) (hline : (apos.endLine == cpos.line) = true := by rfl)
    (hs : swapsWithSole [tg] (.Call (.Attribute a "pop" apos) [] [] cpos) pos.line X.env = pure false := by rfl) (hw : swappedStores [tg] (.Call (.Attribute a "pop" apos) [] [] cpos) X.env = pure none := by rfl)
    (h1 : (assignEach [tg] X.env).map (·.2) = [assign tg X.env] := by rfl) : PS X (.Assign [tg] (.Call (.Attribute a "pop" apos) [] [] cpos) pos) (liftS (pm X T) E (wPop l false g)) := by
  refine PSimp (ps_asg (pe_bm0 PySem.F.plainAttrs_list PySem.F.slot_list_pop PySem.F.type_list_pop mt_pop ho hbase hline) hg hs hw h1) fun D σ H ⟨H0, M0, M, ρ, XW, D3, re, ⟨ls, j, y, hl, ej, hy, q⟩, k⟩ => ?_
  obtain ⟨v2, h2, p, vs, rfl, m, hp, hd⟩ := re.slot l _ hl
  rw [if_neg Bool.false_ne_true] at ej
  subst ej
  obtain ⟨u, hu, du⟩ := hd.at hy
  have fm : Fm M H (upd H p (.lst (vs.eraseIdx (ls.length - 1)))) := fun c' u' z nm nt => by
    rw [upd_ne (show c' ≠ p from fun w => nm (by rw [w]; exact m))]
    exact z
  refine ⟨_, h2, tyl hp, p, vs, u, rfl, rfl, hp, by rw [hd.length]; exact hu, ?_⟩
  rw [dropLast_erase, hd.length]
  exact tg_ok g (re.upd hl h2 (hd.erase _)) (DM.fm fm du) q fun σ' ρ' q' re' _ => k.nx _ M _ _ q' re'
theorem es_pop0 {l : Nat} {g : Tg} {apos cpos p0 : Pos} {k0} (ho : PE X a (tVar l)) (hg : PG X tg (tgG X.K g)) (hbase : attributeBase a "pop" X.env (eval a X.env) = eval a X.env := by rfl) (hline : (apos.endLine == cpos.line) = true := by rfl)
    (hst : starEach [.Constant (.int 0) k0 p0] X.env = (false, eval (.Constant (.int 0) k0 p0) X.env) :: starEach [] X.env := by rfl)
    (hfew : ((backTo cpos (starEach [.Constant (.int 0) k0 p0] X.env)).all (fun x => !x.1) && (backToKw cpos (keywordEach [] X.env)).all (fun x => x.1.isSome) && decide (([.Constant (.int 0) k0 p0] : List Expr).length + ([] : List Keyword).length + (if ([] : List Keyword).isEmpty then 0 else 1) < 30)) = true := by rfl)
    (hplain : (backTo cpos (starEach [] X.env)).any (·.1) = false := by rfl)
    (hs : swapsWithSole [tg] (.Call (.Attribute a "pop" apos) [.Constant (.int 0) k0 p0] [] cpos) pos.line X.env = pure false := by rfl) (hw : swappedStores [tg] (.Call (.Attribute a "pop" apos) [.Constant (.int 0) k0 p0] [] cpos) X.env = pure none := by rfl)
    (h1 : (assignEach [tg] X.env).map (·.2) = [assign tg X.env] := by rfl) : PS X (.Assign [tg] (.Call (.Attribute a "pop" apos) [.Constant (.int 0) k0 p0] [] cpos) pos) (liftS (pm X T) E (wPop l true g)) := by
  refine PSimp (ps_asg (pe_bm PySem.F.plainAttrs_list PySem.F.slot_list_pop PySem.F.type_list_pop mt_popAt ho (pa_cons pe_int pa_nil hst) hbase hfew hline hst hplain) hg hs hw h1) fun D σ H ⟨H0, M0, M, ρ, XW, D3, re, ⟨ls, j, y, hl, ej, hy, q⟩, k⟩ => ?_
  obtain ⟨v2, h2, p, vs, rfl, m, hp, hd⟩ := re.slot l _ hl
  rw [if_pos rfl] at ej
  subst ej
  obtain ⟨u, hu, du⟩ := hd.at hy
  have fm : Fm M H (upd H p (.lst (vs.eraseIdx 0))) := fun c' u' z nm nt => by
    rw [upd_ne (show c' ≠ p from fun w => nm (by rw [w]; exact m))]
    exact z
  have hlt : 0 < vs.length := (List.getElem?_eq_some_iff.mp hu).1
  refine ⟨_, h2, tyl hp, p, vs, 0, 0, u, rfl, rfl, hp, by decide, by decide, ?_, hu, ?_⟩
  · exact (ixN_seq (n := vs.length) (i := 0) (j := 0) (by unfold ixN; rw [if_pos (Int.le_refl 0), if_pos (by omega)]; rfl)).1
  · exact tg_ok g (re.upd hl h2 (hd.erase _)) (DM.fm fm du) q fun σ' ρ' q' re' _ => k.nx _ M _ _ q' re'
end
end T3
set_option linter.all false
set_option maxRecDepth 100000
set_option maxHeartbeats 2000000
set_option Elab.async false
/-! T9: defs by contracts over trees, their calls, own exceptions raised, a lambda handed on. -/
namespace T3
open L2 LamX PySem PyProof.Rows PySem.Spec

/-! ### contracts -/
abbrev Ct := List R → (R → Prop) → (Exc → Prop) → Prop
def spC (P : Pm) (C : Ct) : Sp := fun vs H Q E => ∃ (M0 : Ad) (rs : List R) (Q3 : R → Prop) (X3 : Exc → Prop), (∀ a, M0 a → ¬ Off H a) ∧ Tabs P.T H ∧ RAs P.K M0 H vs rs ∧ C rs Q3 X3 ∧
  (∀ r v H', Q3 r → ExtN H H' → Tabs P.T H' → RR P.K M0 H H' v r → Q v H') ∧ XOk P E X3 M0 H
/-- a def by its promise; g: nothing may be told of what repr guards (false), or it is known that nothing is (true) -/
structure FnG (g : Bool) (P : Program) (w : World) (K : PySem.W.Frag) (mg : Str → Option Value) (base : Heap) (k : Nat) (f : Addr) (fd : FuncData) (ps : List Str) (sp : Sp) : Prop where
  len : ∀ vs H Q E, sp vs H Q E → vs.length = ps.length
  run : ∀ (A : Around) (outer : List Env) (s : Shared) (H : Hp) (args : Args) (us : List Value) (vs : List V) (Q : VK) (E : XK), Room k A → (g = true → A.guards = some []) → Env0 P w K mg base A outer s H → BindsTo s fd args (ps.zip us) → Vals vs us → sp vs H Q E →
    codeAny (model P w) A (.call (.ref f) args) (CR (L2.CX P w) outer P w H s Q E) s
section
variable {g : Bool} {P : Program} {w : World} {K : PySem.W.Frag} {mg : Str → Option Value} {base : Heap} {k : Nat} {f : Addr} {fd : FuncData} {ps : List Str} {sp : Sp}
theorem FnG.mono {j : Nat} (F : FnG g P w K mg base j f fd ps sp) (h : j ≤ k) : FnG g P w K mg base k f fd ps sp := ⟨F.len, fun A outer s H args us vs Q E hr => F.run A outer s H args us vs Q E (hr.mono h)⟩
theorem FnG.imp {sp' : Sp} (F : FnG g P w K mg base k f fd ps sp) (h : ∀ vs H Q E, sp' vs H Q E → sp vs H Q E) : FnG g P w K mg base k f fd ps sp' :=
  ⟨fun vs H Q E q => F.len vs H Q E (h _ _ _ _ q), fun A outer s H args us vs Q E hr hg he hb hv hs => F.run A outer s H args us vs Q E hr hg he hb hv (h _ _ _ _ hs)⟩
end
/-- the slots at a def's entry -/
def startR (N : List Str) (rs : List R) : Env3 := rs.map some ++ List.replicate (N.length - rs.length) none
theorem RAs.at {K : PySem.W.Frag} {M : Ad} {H : Hp} : ∀ {vs : List V} {rs : List R} {i : Nat} {r : R}, RAs K M H vs rs → rs[i]? = some r → ∃ v, vs[i]? = some v ∧ RA K M H v r
  | _, _, _, _, .nil, e => by simp at e
  | _, _, 0, _, .cons h _, e => by
    have q := Option.some.inj (by simpa using e)
    subst q
    exact ⟨_, rfl, h⟩
  | _, _, i + 1, r, .cons _ t, e => by
    obtain ⟨v, h1, h2⟩ := RAs.at (i := i) (r := r) t (by simpa using e)
    exact ⟨v, by simpa using h1, h2⟩
theorem startR_at {N : List Str} {rs : List R} {i : Nat} {r : R} (h : (startR N rs)[i]? = some (some r)) : rs[i]? = some r := by
  unfold startR at h
  by_cases hi : i < rs.length
  · rw [List.getElem?_append_left (by simpa using hi), List.getElem?_map] at h
    cases e : rs[i]? with
    | none => rw [e] at h; cases h
    | some a => rw [e] at h; cases h; rfl
  · rw [List.getElem?_append_right (by simpa using hi), List.getElem?_replicate] at h
    split at h <;> cases h
theorem start_at {N : List Str} {vs : List V} {i : Nat} {v : V} (h : vs[i]? = some v) : (L2.start N vs)[i]? = some (some v) := by
  obtain ⟨hi, e⟩ := List.getElem?_eq_some_iff.mp h
  unfold L2.start
  rw [List.getElem?_append_left (by simpa using hi), List.getElem?_map, h]
  rfl
theorem re_start {P : Pm} {H : Hp} {M0 : Ad} {N : List Str} {vs : List V} {rs : List R} (hm : ∀ a, M0 a → ¬ Off H a) (ht : Tabs P.T H) (ra : RAs P.K M0 H vs rs) : RE P H M0 M0 H (L2.start N vs) (startR N rs) where
  ext := ExtN.refl H
  tabs := ht
  m0 := fun _ m => m
  mdom := hm
  mown := fun _ m => .inl m
  m0dom := hm
  slot := fun i r q => by
    obtain ⟨v, h1, h2⟩ := ra.at (startR_at q)
    exact ⟨v, start_at h1, h2.rs⟩
  minf := fun i y a my q _ => by
    obtain ⟨v, h1, h2⟩ := ra.at (startR_at q)
    exact (RA.not_mine my h2).elim
  mind := fun i j y z a my _ _ q _ _ => by
    obtain ⟨v, h1, h2⟩ := ra.at (startR_at q)
    exact (RA.not_mine my h2).elim
  len := by
    unfold startR L2.start
    rw [List.length_append, List.length_append, List.length_map, List.length_map, List.length_replicate, List.length_replicate, ra.length]
section
variable {g : Bool} {P : Program} {w : World} {K : PySem.W.Frag} {mg : Str → Option Value} {base : Heap} {T : List (Addr × Str)}
/-- THE RULE for a def: its body's reading, and what that reading comes to -/
theorem fn_okG {x qual : Str} {st : Stmt} {f : Addr} {fd : FuncData} {N ps : List Str} {k : Nat} {C : Ct} {wb : WS} (F : Fun K x qual st f fd) (S : FnScope N ps (defScope st)) (len : ∀ rs Q X, C rs Q X → rs.length = ps.length)
    (hbody : ∀ (cdv : Value) (A : Around) (outer : List Env) (s : Shared) (H : Hp) (E : XK), Room k (A.deeper (envOfC qual (defScope st) s.heap.objs.size f cdv)) → (g = true → (A.deeper (envOfC qual (defScope st) s.heap.objs.size f cdv)).guards = some []) →
      PSs (cxOf (L2.CX P w) P w K mg base N qual (defScope st) f cdv A outer s H E) (defBody st) (liftS ⟨K, mg, T⟩ E wb))
    (hpure : ∀ rs Q X, C rs Q X → wb ⟨fun _ => Q (.d .none), Q, fun _ => False, fun _ => False⟩ (startR N rs) X) : FnG g P w K mg base (k + 1) f fd ps (spC ⟨K, mg, T⟩ C) := by
  obtain ⟨oc, od, kV, doc, pm, an, cdv, ct, osl, rfl, lk, hcd⟩ := F.ex
  have len' : ∀ vs H Q E, spC ⟨K, mg, T⟩ C vs H Q E → vs.length = ps.length := fun vs H Q E ⟨M0, rs, Q3, X3, _, _, ra, hC, _⟩ => by rw [ra.length]; exact len _ _ _ hC
  refine ⟨len', fun A outer s H args us vs Q E hr hg e0 hb r hs => ?_⟩
  refine run_ofS lk hcd S hr e0 hb r (len' _ _ _ _ hs) fun hr' => ⟨_, hbody cdv A outer s H E hr' hg, ?_⟩
  obtain ⟨M0, rs, Q3, X3, hm, ht, ra, hC, hQ, hE⟩ := hs
  exact ⟨H, M0, M0, startR N rs, X3, _, re_start hm ht ra, hpure rs Q3 X3 hC, fun ρ' M' H' σ' q re => hQ _ .non H' q re.ext re.tabs .non, fun _ _ _ _ q _ => q.elim, fun _ _ _ _ q _ => q.elim, hE, fun r v H' q e t rr => hQ r v H' q e t rr⟩
end

/-! ### calls -/
section
variable {g : Bool} {X : Cx} {T : List (Addr × Str)} {E : XK} {e a b : Expr} {pos p : Pos} {k : Nat} {f : Addr} {fd : FuncData} {ps : List Str}
abbrev WRs := Env3 → (List R → Prop) → (Exc → Prop) → Prop
def wRnil : WRs := fun _ Q _ => Q []
def wRcons (w : W) (ws : WRs) : WRs := fun ρ Q X => w ρ (fun r => r.ar fun z => ws ρ (fun zs => Q (z :: zs)) X) X
def liftRs (P : Pm) (E : XK) (w : WRs) : TA := fun σ H Q => ∃ H0 M0 M ρ XW Q3, RE P H0 M0 M H σ ρ ∧ XOk P E XW M H ∧ w ρ Q3 XW ∧
  ∀ zs vs H', Q3 zs → ExtN H H' → Tabs P.T H' → RAs P.K M H' vs zs → Q vs H'
theorem er_nil : PA X [] (liftRs (pm X T) E wRnil) := PAimp pa_nil fun σ H Q ⟨H0, M0, M, ρ, XW, Q3, re, xo, q, k⟩ => k [] [] H q (ExtN.refl H) re.tabs .nil
theorem er_cons {es : List Expr} {w : W} {ws : WRs} (he : PE X e (lift (pm X T) E w)) (hr : PA X es (liftRs (pm X T) E ws)) (hs : starEach (e :: es) X.env = (false, eval e X.env) :: starEach es X.env := by rfl) :
    PA X (e :: es) (liftRs (pm X T) E (wRcons w ws)) := by
  refine PAimp (pa_cons he hr hs) fun σ H Q ⟨H0, M0, M, ρ, XW, Q3, re, xo, q, k⟩ => ?_
  refine ⟨H0, M0, M, ρ, XW, _, re, xo, q, fun r v H1 qr e1 t1 rr => ?_⟩
  obtain ⟨z, hz, qz⟩ := rr.arg re.mdom qr
  exact ⟨H0, M0, M, ρ, XW, _, re.grow e1 t1, xo.grow e1, qz, fun zs vs H2 q2 e2 t2 ra => k (z :: zs) (v :: vs) H2 q2 (e1.trans e2) t2 (.cons (hz.ext e2) ra)⟩
theorem run_fnG {pins : List (Addr × Obj)} {σ : St} {H : Hp} {s : Shared} {Q : VK} {us : List Value} {vs : List V} {sp : Sp} (F : FnG g X.prog X.w X.K X.mg X.base k f fd ps sp) (hr : Room k X.A) (hg : g = true → X.A.guards = some []) (hb : Binds X.K fd ps [])
    (hx : L2.Passes (L2.CX X.prog X.w) X E) (I : Inv X pins σ H s) (r : Vals vs us) (h : sp vs H Q E) : wpAny (model X.prog X.w) X.A (call (.ref f) us) (EP X pins σ Q) X.xe s := by
  have hl : us.length = ps.length := by rw [← r.length]; exact F.len _ _ _ _ h
  have b := hb s us I.kIn (by rw [List.append_nil]; exact hl)
  rw [List.append_nil] at b
  refine wpAny_call (codeAny_mono (F.run X.A X.stack s H ⟨us, []⟩ us vs Q E hr hg I.env0 b r h) fun r s' hq => ?_)
  match r, hq with
  | .error e, hq => exact hx pins σ H s e s' I hq
  | .ok (.ret u), hq => exact I.after hq
  | .ok .next, hq => exact False.elim hq
  | .ok .brk, hq => exact False.elim hq
  | .ok .cont, hq => exact False.elim hq
/-- f(..) by f's contract -/
def wFn (C : Ct) (ws : WRs) : W := fun ρ Q X => ws ρ (fun rs => C rs Q X) X
theorem fn_lift {C : Ct} {ws : WRs} {σ : St} {H : Hp} {Q : VK} (h : lift (pm X T) E (wFn C ws) σ H Q) : liftRs (pm X T) E ws σ H fun vs H1 => spC (pm X T) C vs H1 Q E := by
  obtain ⟨H0, M0, M, ρ, XW, Q3, re, xo, q, k⟩ := h
  refine ⟨H0, M0, M, ρ, XW, _, re, xo, q, fun zs vs H1 qz e1 t1 ra => ?_⟩
  exact ⟨M, zs, Q3, XW, (re.grow e1 t1).mdom, t1, ra, qz, fun r v H' q' e' t' rr => k r v H' q' (e1.trans e') t' (rr.back e1), xo.grow e1⟩
theorem ev_fn {x : Str} {es : List Expr} {C : Ct} {ws : WRs} (F : FnG g X.prog X.w X.K X.mg X.base k f fd ps (spC (pm X T) C)) (hr : Room k X.A) (hgd : g = true → X.A.guards = some []) (hg : Gl X x) (hm : X.mg x = some (.ref f)) (hk : PySem.W.keepIn X.K (.ref f) = true) (hb : Binds X.K fd ps [])
    (hx : L2.Passes (L2.CX X.prog X.w) X E) (ha : PA X (e :: es) (liftRs (pm X T) E ws)) (hdb : (x == ("__debug__" : Str)) = false := by decide) (he : starEach (e :: es) X.env = (false, eval e X.env) :: starEach es X.env := by rfl) (hpl : (backTo pos (starEach es X.env)).any (·.1) = false := by rfl) :
    PE X (.Call (.Name x p) (e :: es) [] pos) (lift (pm X T) E (wFn C ws)) := by
  refine ⟨fun pins s σ H Q I h => ?_⟩
  refine wpAny_Call_Name_kw (ld_glob I hg hm ?_ hdb)
  refine PySem.W.callWith_K (h₀ := X.base) I.ok.mod.kin hk (thn (ha.run pos pins s σ H _ I (fn_lift h)) fun us s1 ⟨vs, H1, I1, r, q⟩ => ⟨I1.kIn, ?_⟩) he hpl
  exact run_fnG F hr hgd hb hx I1 r q
theorem ev_fn0 {x : Str} {C : Ct} (F : FnG g X.prog X.w X.K X.mg X.base k f fd ps (spC (pm X T) C)) (hr : Room k X.A) (hgd : g = true → X.A.guards = some []) (hg : Gl X x) (hm : X.mg x = some (.ref f)) (hk : PySem.W.keepIn X.K (.ref f) = true) (hb : Binds X.K fd ps [])
    (hx : L2.Passes (L2.CX X.prog X.w) X E) (hdb : (x == ("__debug__" : Str)) = false := by decide) : PE X (.Call (.Name x p) [] [] pos) (lift (pm X T) E (wFn C wRnil)) := by
  refine ⟨fun pins s σ H Q I h => ?_⟩
  refine wpAny_Call_Name_kw (ld_glob I hg hm ?_ hdb)
  obtain ⟨H0, M0, M, ρ, XW, Q3, re, xo, q, k⟩ := h
  exact PySem.W.callWith_K0 I.kIn hk (run_fnG (us := []) (vs := []) F hr hgd hb hx I .nil ⟨M, [], Q3, XW, re.mdom, re.tabs, .nil, q, k, xo⟩)
/-- what leaves a def's body leaves the def -/
theorem pass_cx {P : Program} {w : World} {K : PySem.W.Frag} {mg : Str → Option Value} {base : Heap} {N : List Str} {qual : Str} {scope : Scope} {f : Addr} {cd : Value} {A : Around} {outer : List Env} {s : Shared} {H : Hp} {E : XK} :
    L2.Passes (L2.CX P w) (cxOf (L2.CX P w) P w K mg base N qual scope f cd A outer s H E) E := passes_call (takes_of rfl rfl rfl rfl) fun _ _ _ _ h => h
theorem own_cx {P : Program} {w : World} {K : PySem.W.Frag} {mg : Str → Option Value} {base : Heap} {N : List Str} {qual : Str} {scope : Scope} {f : Addr} {cd : Value} {A : Around} {outer : List Env} {s : Shared} {H : Hp} {E : XK} :
    PassesOwn (model P w) (A.deeper (envOfC qual scope s.heap.objs.size f cd)) (envOfC qual scope s.heap.objs.size f cd) (cxOf (L2.CX P w) P w K mg base N qual scope f cd A outer s H E).xe :=
  passes_of (X := cxOf (L2.CX P w) P w K mg base N qual scope f cd A outer s H E) rfl

/-! ### raise X() -/
theorem pmk_own0 {C : Addr} {bmB : List Value} {B newId initId : String} {x : Str} (F : ExcBaseFacts B newId initId bmB) (q : PySem.W.excIn X.K C bmB newId = true) (gC : X.mg x = some (.ref C)) (kC : PySem.W.keepIn X.K (.ref C) = true) (r : Raises X (.ref C)) (hg : Gl X x)
    (hdb : (x == ("__debug__" : Str)) = false := by decide) : PMk X (.Call (.Name x p) [] [] pos) (fun _ H Q => Q (.ref C) none H) := by
  intro pins s σ H Q I h
  refine wpAny_Call_Name_kw (ld_glob I hg gC ?_ hdb)
  refine PySem.W.callWith_K0 I.kIn kC ?_
  obtain ⟨bm, N, nm, qn, bs, hdct, sn, sub, ab, col, dd, k0, k1, k2, k3, k5, mN, hC, hN, hni, tail⟩ := exc_obj I.kIn q
  refine wpAny_call_exc_subT F tail hC hN hni (fun h' e hm => ?_) (Nat.zero_le _)
  exact mk_of I hm r h (I.hok.gone hm.new)
/-- an own error class over ValueError (by way of others) without an own __init__, as the top has written it -/
structure ExC (K : PySem.W.Frag) (mg : Str → Option Value) (x : Str) (C : Addr) : Prop where
  g : mg x = some (.ref C)
  q : PySem.W.excIn K C [.type "ValueError", .type "Exception", .type "BaseException", .type "object"] "ValueError.__new__" = true
  k : PySem.W.keepIn K (.ref C) = true
  b : PySem.W.subIn K (.ref C) (.type "BaseException") = some true
  t : PySem.W.typeIn K (.ref C) = some (.type "type")
def wRaise (n : Str) : WS := fun _ _ X => X ⟨n, none⟩
theorem es_raise {x : Str} {C : Addr} {pos2 : Pos} (hc : X.calm = true) (tk : Takes X (fun cls d _ H => E cls d H)) (T' : ExC X.K X.mg x C) (hg : Gl X x) (hdb : (x == ("__debug__" : Str)) = false := by decide) :
    PS X (.Raise (some (.Call (.Name x p) [] [] pos)) none pos2) (liftS (pm X T) E (wRaise x)) :=
  PSimp (ps_raise hc tk (pmk_own0 PySem.F.excBase_ValueError T'.q T'.g T'.k (raises_own T'.b T'.t) hg hdb)) fun D σ H ⟨H0, M0, M, ρ, XW, D3, re, q, k⟩ =>
    k.ex ⟨x, none⟩ (.ref C) none H q re.ext re.tabs ⟨C, T'.g, rfl, rfl⟩

/-! ### a lambda handed to a def that calls it in a try -/
/-- the word that comes of a call -/
def wWord (told : Str) (wd : Exc → Option Str) (wc : W) : W := fun ρ Q _ => wc ρ (fun _ => Q (.d (.str told))) (fun x => ∃ z, wd x = some z ∧ Q (.d (.str z)))
/-- .. as the def makes it of the lambda's reading -/
def TWord (P : Pm) (told : Str) (wd : Exc → Option Str) : (XK → Hp → VK → Prop) → Hp → VK → Prop := fun tl H Q =>
  ∃ Ew : XK, (∀ cls d H', Ew cls d H' → ∃ x z, wd x = some z ∧ RX P (fun _ => False) x cls d H' ∧ Tabs P.T H' ∧ ∀ H'', ExtN H' H'' → Tabs P.T H'' → Q (.str z) H'') ∧
    tl Ew H (fun _ H' => Q (.str told) H')
theorem word_lift {told : Str} {wd : Exc → Option Str} {wc : W} {σ : St} {H : Hp} {Q : VK} (h : lift (pm X T) E (wWord told wd wc) σ H Q) : tLam T (TWord (pm X T) told wd) (fun E' => lift (pm X T) E' wc) σ H Q := by
  obtain ⟨H0, M0, M, ρ, XW, Q3, re, xo, q, k⟩ := h
  refine ⟨re.tabs, fun H1 e1 t1 => ?_⟩
  refine ⟨fun cls d H' => ∃ x z, wd x = some z ∧ Q3 (.d (.str z)) ∧ ExtN H1 H' ∧ Tabs T H' ∧ RX (pm X T) M x cls d H', fun cls d H' ⟨x, z, hz, hq, e2, t2, rx⟩ => ⟨x, z, hz, rx.anti (fun _ z => z.elim), t2, fun H'' e3 t3 => k _ _ H'' hq ((e1.trans e2).trans e3) t3 (.str z)⟩, ?_⟩
  exact ⟨H0, M0, M, ρ, _, _, re.grow e1 t1, fun x cls d H' ⟨z, hz, hq⟩ e2 t2 rx => ⟨x, z, hz, hq, e2, t2, rx⟩, q, fun r v H' hq e2 t2 rr => k _ _ H' hq (e1.trans e2) t2 (.str told)⟩
theorem ev_word {told : Str} {wd : Exc → Option Str} {wc : W} {x a : Str} {g c Pt : Addr} {k : Nat} {pg : Arguments} {bg : List Stmt} {sg : Scope} {dV kV doc pm' cdv ct oc : Value} {an od : Option Addr} {osl : Array (Option Value)} {Ng : List Str}
    {params : Arguments} {body : Expr} {scope : Scope} {lpos : Pos} (hg : Gl X x) (hm : X.mg x = some (.ref g)) (hk : PySem.W.keepIn X.K (.ref g) = true)
    (lk : X.K.lookup g = some ⟨oc, od, .func (PySem.W.fnOf x x pg bg sg dV kV doc pm' an cdv ct), osl⟩) (hcg : PySem.W.codeIn X.K cdv x = true) (hb : L2.Binds X.K (PySem.W.fnOf x x pg bg sg dV kV doc pm' an cdv ct) [a] []) (Sg : FnScope Ng [a] sg) (hNg : Ng[0]? = some a) (hva : Vis sg a)
    (hG : GivesTo X Ng x sg g cdv bg a (X.env.qual ++ "<lambda>") (TWord (pm X T) told wd))
    (TB : TabB X.base X.mg c Pt) (hcode : X.env.code = .ref c) (hmT : (Pt, X.env.qual ++ "<lambda>") ∈ T) (hu : ∀ p ∈ T, p.1 = Pt → p.2 = X.env.qual ++ "<lambda>") (hr : Room (k + 2) X.A) (L : LamS X.env.scope scope) (hdef : defaultsOf params X.env = ([], []))
    (hbind : ∀ (q : Str) (cl : List (Str × Addr)) (pm cv ctv : Value), bindArgs (PySem.W.kla_fn "<lambda>" q params body scope cl pm cv ctv) ⟨[], []⟩ = pure [])
    (hbody : ∀ (A : Around) (outer : List Env) (s : Shared) (H : Hp) (E' : XK) (f c' : Addr), Room k (A.deeper (lamEnv X scope s.heap.objs.size f c')) → PE (lamCx X A outer s H E' scope f c') body (lift (pm X T) E' wc))
    (hdb : (x == ("__debug__" : Str)) = false := by decide) (hd : (a == ("__debug__" : Str)) = false := by decide) (hcd : (a == ("__classdict__" : Str)) = false := by decide) :
    PE X (.Call (.Name x p) [.Lambda params body scope lpos] [] pos) (lift (pm X T) E (wWord told wd wc)) :=
  PEimp (pe_lamcall (T := T) hg hm hk lk hcg hb Sg hNg hva hG TB hcode hmT hu hr L hdef hbind hbody hdb hd hcd) fun _ _ _ h => word_lift h
end

/-! ### a def that may be called -/
structure Cal (g : Bool) (P : Program) (w : World) (K : PySem.W.Frag) (mg : Str → Option Value) (base : Heap) (T : List (Addr × Str)) (k : Nat) (x : Str) (C : Ct) : Prop where
  ex : ∃ (f : Addr) (fd : FuncData) (ps : List Str), FnG g P w K mg base k f fd ps (spC ⟨K, mg, T⟩ C) ∧ Binds K fd ps [] ∧ PySem.W.keepIn K (.ref f) = true ∧ mg x = some (.ref f)
/-- a def of the text as the top has written it; Pc: what is known of its code object -/
structure Def (K : PySem.W.Frag) (mg : Str → Option Value) (x : Str) (st : Stmt) (Pc : Value → Prop) : Prop where
  ex : ∃ (f : Addr) (oc : Value) (od : Option Addr) (kV doc pm : Value) (an : Option Addr) (cdv ct : Value) (osl : Array (Option Value)),
    mg x = some (.ref f) ∧ K.lookup f = some ⟨oc, od, .func (PySem.W.fnOf x x (defArgs st) (defBody st) (defScope st) .none kV doc pm an cdv ct), osl⟩ ∧ PySem.W.codeIn K cdv x = true ∧ PySem.W.keepIn K (.ref f) = true ∧ Pc cdv
def anyC : Value → Prop := fun _ => True
abbrev BindsBy (x : Str) (st : Stmt) (ps : List Str) : Prop := ∀ (kV doc pm : Value) (an : Option Addr) (cdv ct : Value) (us : List Value), us.length = ps.length → bindArgs (PySem.W.fnOf x x (defArgs st) (defBody st) (defScope st) .none kV doc pm an cdv ct) ⟨us, []⟩ = pure (ps.zip us)
theorem fnx_of {g : Bool} {P : Program} {w : World} {K : PySem.W.Frag} {mg : Str → Option Value} {base : Heap} {T : List (Addr × Str)} {k : Nat} {x : Str} {st : Stmt} {ps N : List Str} {Pc : Value → Prop} {C : Ct} {wb : WS} (D : Def K mg x st Pc) (S : FnScope N ps (defScope st)) (hb : BindsBy x st ps) (len : ∀ rs Q X, C rs Q X → rs.length = ps.length)
    (hbody : ∀ (f : Addr) (cdv : Value) (A : Around) (outer : List Env) (s : Shared) (H : Hp) (E : XK), Pc cdv → Room k (A.deeper (envOfC x (defScope st) s.heap.objs.size f cdv)) → (g = true → (A.deeper (envOfC x (defScope st) s.heap.objs.size f cdv)).guards = some []) →
      PSs (cxOf (L2.CX P w) P w K mg base N x (defScope st) f cdv A outer s H E) (defBody st) (liftS ⟨K, mg, T⟩ E wb))
    (hpure : ∀ rs Q X, C rs Q X → wb ⟨fun _ => Q (.d .none), Q, fun _ => False, fun _ => False⟩ (startR N rs) X) : ∃ (f : Addr) (oc : Value) (od : Option Addr) (kV doc pm : Value) (an : Option Addr) (cdv ct : Value) (osl : Array (Option Value)), mg x = some (.ref f) ∧ K.lookup f = some ⟨oc, od, .func (PySem.W.fnOf x x (defArgs st) (defBody st) (defScope st) .none kV doc pm an cdv ct), osl⟩ ∧ PySem.W.keepIn K (.ref f) = true ∧
    FnG g P w K mg base (k + 1) f (PySem.W.fnOf x x (defArgs st) (defBody st) (defScope st) .none kV doc pm an cdv ct) ps (spC ⟨K, mg, T⟩ C) := by
  obtain ⟨f, oc, od, kV, doc, pm, an, cdv, ct, osl, hm, lk, hc, hk, hp⟩ := D.ex
  have hB := hb kV doc pm an cdv ct
  have len' : ∀ vs H Q E, spC ⟨K, mg, T⟩ C vs H Q E → vs.length = ps.length := fun vs H Q E ⟨M0, rs, Q3, X3, _, _, ra, hC, _⟩ => by rw [ra.length]; exact len _ _ _ hC
  refine ⟨f, oc, od, kV, doc, pm, an, cdv, ct, osl, hm, lk, hk, len', fun A outer s H args us vs Q E hr hg e0 hb2 r hs => ?_⟩
  refine run_ofS lk hc S hr e0 hb2 r (len' _ _ _ _ hs) fun hr' => ⟨_, hbody f cdv A outer s H E hp hr' hg, ?_⟩
  obtain ⟨M0, rs, Q3, X3, hm2, ht, ra, hC, hQ, hE⟩ := hs
  exact ⟨H, M0, M0, startR N rs, X3, _, re_start hm2 ht ra, hpure rs Q3 X3 hC, fun ρ' M' H' σ' q re => hQ _ .non H' q re.ext re.tabs .non, fun _ _ _ _ q _ => q.elim, fun _ _ _ _ q _ => q.elim, hE, fun r v H' q e t rr => hQ r v H' q e t rr⟩
theorem cal_of {g : Bool} {P : Program} {w : World} {K : PySem.W.Frag} {mg : Str → Option Value} {base : Heap} {T : List (Addr × Str)} {k : Nat} {x : Str} {st : Stmt} {ps N : List Str} {Pc : Value → Prop} {C : Ct} {wb : WS} (D : Def K mg x st Pc) (S : FnScope N ps (defScope st)) (hb : BindsBy x st ps) (len : ∀ rs Q X, C rs Q X → rs.length = ps.length)
    (hbody : ∀ (f : Addr) (cdv : Value) (A : Around) (outer : List Env) (s : Shared) (H : Hp) (E : XK), Pc cdv → Room k (A.deeper (envOfC x (defScope st) s.heap.objs.size f cdv)) → (g = true → (A.deeper (envOfC x (defScope st) s.heap.objs.size f cdv)).guards = some []) →
      PSs (cxOf (L2.CX P w) P w K mg base N x (defScope st) f cdv A outer s H E) (defBody st) (liftS ⟨K, mg, T⟩ E wb))
    (hpure : ∀ rs Q X, C rs Q X → wb ⟨fun _ => Q (.d .none), Q, fun _ => False, fun _ => False⟩ (startR N rs) X) : Cal g P w K mg base T (k + 1) x C := by
  obtain ⟨f, oc, od, kV, doc, pm, an, cdv, ct, osl, hm, lk, hk, F⟩ := fnx_of D S hb len hbody hpure
  exact ⟨f, _, ps, F, .all (hb kV doc pm an cdv ct), hk, hm⟩
theorem Cal.mono {g : Bool} {P : Program} {w : World} {K : PySem.W.Frag} {mg : Str → Option Value} {base : Heap} {T : List (Addr × Str)} {k : Nat} {x : Str} {C C' : Ct} (c : Cal g P w K mg base T k x C) (h : ∀ rs Q X, C' rs Q X → C rs Q X) : Cal g P w K mg base T k x C' := by
  obtain ⟨f, fd, ps, F, r⟩ := c.ex
  exact ⟨f, fd, ps, F.imp fun vs H Q E ⟨M0, rs, Q3, X3, h1, h2, h3, h4, h5⟩ => ⟨M0, rs, Q3, X3, h1, h2, h3, h _ _ _ h4, h5⟩, r⟩
section
variable {g : Bool} {X : Cx} {T : List (Addr × Str)} {E : XK} {e : Expr} {pos p : Pos} {k k' : Nat}
theorem ev_fnC {x : Str} {es : List Expr} {C : Ct} {ws : WRs} (c : Cal g X.prog X.w X.K X.mg X.base T k x C) (hr : Room k' X.A) (hle : k ≤ k') (hgd : g = true → X.A.guards = some []) (hg : Gl X x)
    (hx : L2.Passes (L2.CX X.prog X.w) X E) (ha : PA X (e :: es) (liftRs (pm X T) E ws)) (hdb : (x == ("__debug__" : Str)) = false := by decide) (he : starEach (e :: es) X.env = (false, eval e X.env) :: starEach es X.env := by rfl) (hpl : (backTo pos (starEach es X.env)).any (·.1) = false := by rfl) :
    PE X (.Call (.Name x p) (e :: es) [] pos) (lift (pm X T) E (wFn C ws)) := by
  obtain ⟨f, fd, ps, F, hb, hk, hm⟩ := c.ex
  exact ev_fn F (hr.mono hle) hgd hg hm hk hb hx ha hdb he hpl
theorem ev_fnC0 {x : Str} {C : Ct} (c : Cal g X.prog X.w X.K X.mg X.base T k x C) (hr : Room k' X.A) (hle : k ≤ k') (hgd : g = true → X.A.guards = some []) (hg : Gl X x)
    (hx : L2.Passes (L2.CX X.prog X.w) X E) (hdb : (x == ("__debug__" : Str)) = false := by decide) : PE X (.Call (.Name x p) [] [] pos) (lift (pm X T) E (wFn C wRnil)) := by
  obtain ⟨f, fd, ps, F, hb, hk, hm⟩ := c.ex
  exact ev_fn0 F (hr.mono hle) hgd hg hm hk hb hx hdb
/-- -x -/
def negD (x : PyData) (k : R → Prop) : Prop := match x with
  | .int i => k (.d (.int (-i)))
  | _ => False
theorem un_negD : UnR X (unaryOp .USub) (rD1 (pm X T) negD) := fun pins s σ H x v Q I r h => un_neg pins s σ H x v Q I r (by
  obtain ⟨M, d, Q3, hm, ht, hd, q, k⟩ := h
  unfold negD at q
  split at q
  · exact ⟨_, hd.int, k _ _ _ q (ExtN.refl H) ht (.int _)⟩
  · exact q.elim)
theorem u64 {A : Around} {k : Nat} (hr : Room k A) : A.units + 64 < cLine := hr.units
theorem u65 {A : Around} {k : Nat} (hr : Room k A) : A.units + 65 < cLine := by
  have := hr.un
  omega
end
theorem bb_len : bootBuiltins "len" = some (.builtin "len") := by decide +kernel
theorem bb_abs : bootBuiltins "abs" = some (.builtin "abs") := by decide +kernel
theorem bb_min : bootBuiltins "min" = some (.builtin "min") := by decide +kernel
theorem bb_max : bootBuiltins "max" = some (.builtin "max") := by decide +kernel
theorem bb_sum : bootBuiltins "sum" = some (.builtin "sum") := by decide +kernel
theorem bb_all : bootBuiltins "all" = some (.builtin "all") := by decide +kernel
theorem bb_any : bootBuiltins "any" = some (.builtin "any") := by decide +kernel
theorem bb_repr : bootBuiltins "repr" = some (.builtin "repr") := by decide +kernel
theorem bb_sorted : bootBuiltins "sorted" = some (.builtin "sorted") := by decide +kernel
theorem bb_isinstance : bootBuiltins "isinstance" = some (.builtin "isinstance") := by decide +kernel
theorem bb_int : bootBuiltins "int" = some (.type "int") := by decide +kernel
theorem bb_bool : bootBuiltins "bool" = some (.type "bool") := by decide +kernel
theorem bb_str : bootBuiltins "str" = some (.type "str") := by decide +kernel
theorem bb_tuple : bootBuiltins "tuple" = some (.type "tuple") := by decide +kernel
theorem bb_list : bootBuiltins "list" = some (.type "list") := by decide +kernel
theorem bb_dict : bootBuiltins "dict" = some (.type "dict") := by decide +kernel
end T3
set_option linter.all false
set_option maxRecDepth 100000
set_option maxHeartbeats 2000000
set_option Elab.async false
/-! T10: further sources of loops; in, count, index; texts shown by repr; names of the module. -/
namespace T3
open L2 LamX PySem PyProof.Rows PySem.Spec

section
variable {X : Cx} {T : List (Addr × Str)} {E : XK} {e a b : Expr} {pos p : Pos} {tg : Expr}
theorem it_lst {pins : List (Addr × Obj)} {σ : St} {H : Hp} {s : Shared} {R : It → Hp → Prop} {l : Addr} {xs : List V} (J : Inv X pins σ H s) (hq : SqL X.K H l xs) (q : R (Itl X.K l) H) : wpAny (model X.prog X.w) X.A (pyIter (.ref l)) (PIE X pins σ tg R) X.xe s := by
  obtain ⟨its, _, pl, _⟩ := J.list hq
  have kept := J.kept (h' := s.heap.push { cls := .type "list_iterator", data := .fields #[.ref l, .int 0 0] }) (t' := s.toks) fun b o e => Heap.get?_push_of_some _ e
  exact wpAny_pyIter_list pl.isList ⟨_, [s.heap.objs.size], _, _, H, rfl, kept, turn_list l s.heap.objs.size, ⟨_, Heap.get?_push_size _ rfl, rfl, rfl⟩, fun b hb => by
    cases List.mem_singleton.mp hb
    exact J.fpOk (Nat.le_refl _) (J.hok.fresh (Nat.le_refl _)), q⟩
theorem it_tpl {pins : List (Addr × Obj)} {σ : St} {H : Hp} {s : Shared} {R : It → Hp → Prop} {l : Addr} {xs : List V} (J : Inv X pins σ H s) (hq : SqT X.K H l xs) (q : R (Itt X.K l) H) : wpAny (model X.prog X.w) X.A (pyIter (.ref l)) (PIE X pins σ tg R) X.xe s := by
  obtain ⟨its, _, pl, _⟩ := J.tuple hq
  have pl' : s.heap.IsTuple l its.toArray := pl
  have kept := J.kept (h' := s.heap.push { cls := .type "tuple_iterator", data := .fields #[.ref l, .int 0 0] }) (t' := s.toks) fun b o e => Heap.get?_push_of_some _ e
  exact wpAny_pyIter_tuple pl' ⟨_, [s.heap.objs.size], _, _, H, rfl, kept, turn_tuple l s.heap.objs.size, ⟨_, Heap.get?_push_size _ rfl, rfl, rfl⟩, fun b hb => by
    cases List.mem_singleton.mp hb
    exact J.fpOk (Nat.le_refl _) (J.hok.fresh (Nat.le_refl _)), q⟩
/-- what is a list (false) or a tuple (true), its items; wk: a list of the frame's own -/
def R.sq : R → (Bool → Bool → List PyData → Prop) → Prop
  | .d (.list xs), k => k false false xs
  | .d (.tuple xs), k => k false true xs
  | .fr xs, k => k false false xs
  | .own xs, k => k true false xs
  | _, _ => False
def SqAt (K : PySem.W.Frag) (M : Ad) (H : Hp) (wk t : Bool) (a : Addr) (vs : List V) (xs : List PyData) : Prop :=
  (if t = true then TupM K M H a vs else H a = some (.lst vs) ∧ (wk = false → ¬ M a)) ∧ DMs K M H vs xs
theorem RR.sq {K : PySem.W.Frag} {M : Ad} {Hb H : Hp} {v : V} {r : R} {k : Bool → Bool → List PyData → Prop} (hm : ∀ b, M b → ¬ Off Hb b) (h : RR K M Hb H v r) (q : r.sq k) : ∃ a vs wk t xs, v = .ref a ∧ SqAt K M H wk t a vs xs ∧ k wk t xs := by
  cases r with
  | d x =>
    cases x with
    | list xs =>
      cases h with
      | lst l r => exact ⟨_, _, false, false, xs, rfl, ⟨⟨l.2, fun _ => l.1⟩, r⟩, q⟩
    | tuple xs =>
      cases h with
      | tup l r => exact ⟨_, _, false, true, xs, rfl, ⟨l, r⟩, q⟩
    | _ => exact q.elim
  | own xs =>
    obtain ⟨p, vs, rfl, m, h2, h3⟩ := h
    exact ⟨_, _, true, false, xs, rfl, ⟨⟨h2, fun z => by cases z⟩, h3⟩, q⟩
  | fr xs =>
    obtain ⟨p, vs, rfl, o, h2, h3⟩ := h
    exact ⟨_, _, false, false, xs, rfl, ⟨⟨h2, fun _ z => hm p z o⟩, DMs.anti (fun b z => .inl z) h3⟩, q⟩
  | dk kvs => exact q.elim
  | fk kvs => exact q.elim
  | hand L => exact q.elim
  | scr ns => exact q.elim
  | adr b => exact q.elim
section
variable {K : PySem.W.Frag} {M : Ad} {H H' F : Hp} {wk t : Bool} {a : Addr} {vs : List V} {xs : List PyData}
theorem SqAt.ext (e : ExtN H H') (h : SqAt K M H wk t a vs xs) : SqAt K M H' wk t a vs xs := by
  refine ⟨?_, DMs.fm (.of e) h.2⟩
  cases t with
  | true => exact TupM.fm (.of e) h.1
  | false => exact ⟨e _ _ h.1.1 (fun ps q => by cases q), h.1.2⟩
theorem SqAt.sq (h : SqAt K M H wk t a vs xs) : SqL K H a vs ∨ SqT K H a vs := by
  cases t with
  | true => exact .inr (TupM.sq h.1)
  | false => exact .inl (SqL.of h.1.1)
/-- .. told of a part of the heap -/
theorem SqAt.part (h : SqAt K M H wk t a vs xs) (h1 : wk = false → Fm M H F) (h2 : wk = true → F = H) : SqAt K M F wk t a vs xs := by
  cases wk with
  | true => rw [h2 rfl]; exact h
  | false =>
    refine ⟨?_, DMs.fm (h1 rfl) h.2⟩
    cases t with
    | true => exact TupM.fm (h1 rfl) h.1
    | false => exact ⟨h1 rfl _ _ h.1.1 (h.1.2 rfl) (fun ps q => by cases q), h.1.2⟩
end
def wIs (w : W) : WI := fun ρ Q X => w ρ (fun r => r.sq fun wk _ xs => Q wk xs) X
theorem ei_seq {w : W} (h : PE X e (lift (pm X T) E w)) : PI X tg e (liftI (pm X T) E (wIs w)) := by
  refine ⟨fun pins s σ H R I ⟨H0, M0, M, ρ, XW, Q3, re, xo, q, k⟩ => ?_⟩
  refine thn ((PElen h).run pins s σ H (fun v H1 => ∃ a, v = .ref a ∧ ((∃ vs, SqL X.K H1 a vs ∧ R (Itl X.K a) H1) ∨ ∃ vs, SqT X.K H1 a vs ∧ R (Itt X.K a) H1)) I ?_) fun u s1 ⟨v, H1, I1, r1, a, e1, q1⟩ => ?_
  · refine ⟨H0, M0, M, ρ, XW, _, re, xo, q, fun r v H1 qr e1 t1 rr len => ?_⟩
    obtain ⟨a, vs, wk, t, xs, rfl, sq, qx⟩ := rr.sq re.mdom qr
    have hl : xs.length ≤ sizeLine := by rw [← sq.2.length]; exact len _ _ rfl sq.sq
    refine ⟨a, rfl, ?_⟩
    cases t with
    | true => exact .inr ⟨vs, TupM.sq sq.1, k wk xs _ H1 qx e1 t1 hl fun F h1 h2 => by
        have z := sq.part h1 h2
        exact walk_tpl (TupM.sq z.1) z.2⟩
    | false => exact .inl ⟨vs, SqL.of sq.1.1, k wk xs _ H1 qx e1 t1 hl fun F h1 h2 => by
        have z := sq.part h1 h2
        exact walk_lst z.1.1 z.2⟩
  · subst e1
    cases r1
    rcases q1 with ⟨vs, hs, hR⟩ | ⟨vs, hs, hR⟩
    · exact it_lst I1 hs hR
    · exact it_tpl I1 hs hR
/-- zip of two lists or of two tuples -/
def zipD : List PyData → List PyData → List PyData
  | x :: xs, y :: ys => .tuple [x, y] :: zipD xs ys
  | _, _ => []
theorem zipD_len : ∀ xs ys : List PyData, (zipD xs ys).length = min xs.length ys.length
  | [], _ => by simp [zipD]
  | _ :: _, [] => by simp [zipD]
  | x :: xs, y :: ys => by
    show (zipD xs ys).length + 1 = min (xs.length + 1) (ys.length + 1)
    rw [zipD_len xs ys]
    omega
theorem zipD_at : ∀ {xs ys : List PyData} {i : Nat} {x y : PyData}, xs[i]? = some x → ys[i]? = some y → (zipD xs ys)[i]? = some (.tuple [x, y])
  | x :: xs, y :: ys, 0, _, _, h1, h2 => by
    cases h1
    cases h2
    rfl
  | x :: xs, y :: ys, i + 1, u, v, h1, h2 => by
    have h := zipD_at (xs := xs) (ys := ys) (i := i) (x := u) (y := v) (by simpa using h1) (by simpa using h2)
    simpa [zipD] using h
  | [], _, _, _, _, h1, _ => by simp at h1
  | _ :: _, [], _, _, _, _, h2 => by simp at h2
def wIz (a b : W) : WI := fun ρ Q X => a ρ (fun r => r.sq fun w1 t1 xs => b ρ (fun s => s.sq fun w2 t2 ys => t1 = t2 ∧ Q (w1 || w2) (zipD xs ys)) X) X
theorem walk_zipTT {K : PySem.W.Frag} {a b : Addr} {xs ys : List V} {n : Nat} (hn : n = min xs.length ys.length) : Walk (RZ.ItzT K a b) n (fun H => SqT K H a xs ∧ SqT K H b ys) (YPair (fun i => xs[i]?) (fun i => ys[i]?)) := by
  subst hn
  refine ⟨fun i _ hi q => ?_, fun _ q => ⟨xs, ys, q.1, q.2, by omega⟩, fun i H v H' _ q y => ?_⟩
  · have l1 : i < xs.length := by omega
    have l2 : i < ys.length := by omega
    exact ⟨xs, ys, xs[i], ys[i], q.1, q.2, by simp [l1], by simp [l2]⟩
  · obtain ⟨tp, u, z, y1, y2, y3, y4, y5⟩ := y
    exact ⟨tp, u, z, y1, y2, y3, y4 xs q.1, y5 ys q.2⟩
/-- a pair just laid -/
theorem pair_new {K : PySem.W.Frag} {M' : Ad} {H : Hp} {tp : Addr} {u z : V} {x y : PyData} (hm : ∀ a, M' a → ¬ Off H a) (h : H tp = none) (hu : DM K M' H u x) (hz : DM K M' H z y) : DM K M' (upd H tp (.tup [u, z])) (.ref tp) (.tuple [x, y]) :=
  tup_new hm (ExtN.refl H) h (.cons hu (.cons hz .nil))
theorem ei_zip {wa wb : W} {tpos : Pos} {elts : List Expr} {kk : Nat} (hg : Gl X "zip") (hm : X.mg "zip" = none) (ha : PE X a (lift (pm X T) E wa)) (hb : PE X b (lift (pm X T) E wb)) (hs : starEach [a, b] X.env = (false, eval a X.env) :: starEach [b] X.env := by rfl) (hs2 : starEach [b] X.env = (false, eval b X.env) :: starEach [] X.env := by rfl) (hpl : (backTo pos (starEach [b] X.env)).any (·.1) = false := by rfl) :
    PI X (.Tuple elts kk tpos) (.Call (.Name "zip" p) [a, b] [] pos) (liftI (pm X T) E (wIz wa wb)) := by
  refine PIimp (RZ.pi_zipA hg hm (pa_cons (PElen ha) (pa_cons (PElen hb) pa_nil hs2) hs) hs hpl) fun σ H R ⟨H0, M0, M, ρ, XW, Q3, re, xo, q, k⟩ => ?_
  refine ⟨H0, M0, M, ρ, XW, _, re, xo, q, fun r v H1 qr e1 t1 rr len => ?_⟩
  obtain ⟨a1, vs, w1, t, xs, rfl, sq, qx⟩ := rr.sq re.mdom qr
  have re1 := re.grow e1 t1
  refine ⟨H0, M0, M, ρ, XW, _, re1, xo.grow e1, qx, fun s u H2 qs e2 t2 rs len2 => ?_⟩
  obtain ⟨b1, us, w2, t', ys, rfl, sq2, et, qy⟩ := rs.sq re1.mdom qs
  subst et
  have hl : (zipD xs ys).length ≤ sizeLine := by
    rw [zipD_len]
    have := len _ _ rfl sq.sq
    have := sq.2.length
    omega
  have sq := sq.ext e2
  have yields : ∀ {F H3 H4 : Hp} {v : V} {M' : Ad} {i : Nat}, DMs X.K M F vs xs → DMs X.K M F us ys → ExtN F H3 → (∀ c, M' c → M c ∨ Off F c) → (∀ c, M' c → ¬ Off H3 c) → YPair (fun i => vs[i]?) (fun i => us[i]?) i H3 v H4 → ExtN H3 H4 ∧ (Tabs T H3 → Tabs T H4) ∧ ∃ d, (zipD xs ys)[i]? = some d ∧ DM X.K M' H4 v d := by
    rintro F H3 H4 v M' i d1 d2 e m md ⟨tp, u, z, rfl, hT, rfl, hu, hz⟩
    obtain ⟨x, hx, dx⟩ := d1.get hu
    obtain ⟨y, hy, dy⟩ := d2.get hz
    exact ⟨ext_new hT, fun t => tabs_new t hT, _, zipD_at hx hy, pair_new md hT (dx.off e m) (dy.off e m)⟩
  refine ⟨a1, b1, vs, us, rfl, ?_⟩
  cases t with
  | false =>
    refine .inl ⟨SqL.of sq.1.1, SqL.of sq2.1.1, k (w1 || w2) _ _ H2 qy (e1.trans e2) t2 hl fun F h1 h2 => ?_⟩
    have z1 : SqAt X.K M F w1 false a1 vs xs := sq.part (fun z => by
      cases w2 with
      | false => exact h1 (by rw [z]; rfl)
      | true => rw [h2 (by simp)]; exact Fm.refl) fun z => h2 (by rw [z]; rfl)
    have z2 : SqAt X.K M F w2 false b1 us ys := sq2.part (fun z => by
      cases w1 with
      | false => exact h1 (by rw [z]; rfl)
      | true => rw [h2 (by simp)]; exact Fm.refl) fun z => h2 (by rw [z]; simp)
    refine ⟨⟨_, _, walk_zip (xs := vs) (ys := us) (by rw [zipD_len, sq.2.length, sq2.2.length]), fun H3 e => ⟨SqL.of (e _ _ z1.1.1 (fun ps q => by cases q)), SqL.of (e _ _ z2.1.1 (fun ps q => by cases q))⟩, fun i H3 x H4 M' _ e m md y => yields z1.2 z2.2 e m md y⟩⟩
  | true =>
    refine .inr ⟨TupM.sq sq.1, TupM.sq sq2.1, k (w1 || w2) _ _ H2 qy (e1.trans e2) t2 hl fun F h1 h2 => ?_⟩
    have z1 : SqAt X.K M F w1 true a1 vs xs := sq.part (fun z => by
      cases w2 with
      | false => exact h1 (by rw [z]; rfl)
      | true => rw [h2 (by simp)]; exact Fm.refl) fun z => h2 (by rw [z]; rfl)
    have z2 : SqAt X.K M F w2 true b1 us ys := sq2.part (fun z => by
      cases w1 with
      | false => exact h1 (by rw [z]; rfl)
      | true => rw [h2 (by simp)]; exact Fm.refl) fun z => h2 (by rw [z]; simp)
    refine ⟨⟨_, _, walk_zipTT (xs := vs) (ys := us) (by rw [zipD_len, sq.2.length, sq2.2.length]), fun H3 e => ⟨sqT_ext e (TupM.sq z1.1), sqT_ext e (TupM.sq z2.1)⟩, fun i H3 x H4 M' _ e m md y => yields z1.2 z2.2 e m md y⟩⟩
/-! ### in, count, index -/
def inDD : Op2 := fun x y k => match y with
  | .list ys => SeqAt.shaped x = true ∧ SeqAt.shaped y = true ∧ k (.d (.bool (ys.any fun z => PyData.eqv z x)))
  | .tuple ys => SeqAt.shaped x = true ∧ SeqAt.shaped y = true ∧ k (.d (.bool (ys.any fun z => PyData.eqv z x)))
  | _ => False
def notInDD : Op2 := fun x y k => match y with
  | .list ys => SeqAt.shaped x = true ∧ SeqAt.shaped y = true ∧ k (.d (.bool (!ys.any fun z => PyData.eqv z x)))
  | .tuple ys => SeqAt.shaped x = true ∧ SeqAt.shaped y = true ∧ k (.d (.bool (!ys.any fun z => PyData.eqv z x)))
  | _ => False
theorem op_inTup (hu : X.A.units + 65 < cLine) : OpR X (compareOp .In) (fun x y H Q => ∃ d ds, Dp X.K H x d ∧ Dp X.K H y (.tuple ds) ∧ SeqAt.shaped d = true ∧ SeqAt.shaped (.tuple ds) = true ∧ Q (.bl (ds.any fun z => PyData.eqv z d)) H) := fun pins s σ H x y v u Q I rx ry ⟨d, ds, hd, he, sd, se, q⟩ => by
  obtain ⟨as, r1⟩ := Dp.reads I d x v hd rx
  obtain ⟨bs, r2⟩ := Dp.reads I (.tuple ds) y u he ry
  exact SeqAt.in_tuple_reads r2 r1 (lay_of_shaped se) (lay_of_shaped sd) (room_in_shaped sd hu) ⟨.bl _, H, I, rfl, q⟩
theorem op_notInTup (hu : X.A.units + 65 < cLine) : OpR X (compareOp .NotIn) (fun x y H Q => ∃ d ds, Dp X.K H x d ∧ Dp X.K H y (.tuple ds) ∧ SeqAt.shaped d = true ∧ SeqAt.shaped (.tuple ds) = true ∧ Q (.bl (!ds.any fun z => PyData.eqv z d)) H) := fun pins s σ H x y v u Q I rx ry ⟨d, ds, hd, he, sd, se, q⟩ => by
  obtain ⟨as, r1⟩ := Dp.reads I d x v hd rx
  obtain ⟨bs, r2⟩ := Dp.reads I (.tuple ds) y u he ry
  exact SeqAt.notIn_tuple_reads r2 r1 (lay_of_shaped se) (lay_of_shaped sd) (room_in_shaped sd hu) ⟨.bl _, H, I, rfl, q⟩
theorem op_inDD (hu : X.A.units + 65 < cLine) : OpR X (compareOp .In) (rD (pm X T) inDD) := OpRimp ((op_inD hu).or (op_inTup hu)) fun x y H Q h => by
  obtain ⟨M, d, e, Q3, hm, ht, hd, he, q, k⟩ := h
  unfold inDD at q
  split at q
  · obtain ⟨s1, s2, q⟩ := q
    exact .inl ⟨d, _, hd.dp (lay_of_shaped s1), he.dp (lay_of_shaped s2), s1, s2, k _ _ _ q (ExtN.refl H) ht (.bl _)⟩
  · obtain ⟨s1, s2, q⟩ := q
    exact .inr ⟨d, _, hd.dp (lay_of_shaped s1), he.dp (lay_of_shaped s2), s1, s2, k _ _ _ q (ExtN.refl H) ht (.bl _)⟩
  · exact q.elim
theorem op_notInDD (hu : X.A.units + 65 < cLine) : OpR X (compareOp .NotIn) (rD (pm X T) notInDD) := OpRimp ((op_notInD hu).or (op_notInTup hu)) fun x y H Q h => by
  obtain ⟨M, d, e, Q3, hm, ht, hd, he, q, k⟩ := h
  unfold notInDD at q
  split at q
  · obtain ⟨s1, s2, q⟩ := q
    exact .inl ⟨d, _, hd.dp (lay_of_shaped s1), he.dp (lay_of_shaped s2), s1, s2, k _ _ _ q (ExtN.refl H) ht (.bl _)⟩
  · obtain ⟨s1, s2, q⟩ := q
    exact .inr ⟨d, _, hd.dp (lay_of_shaped s1), he.dp (lay_of_shaped s2), s1, s2, k _ _ _ q (ExtN.refl H) ht (.bl _)⟩
  · exact q.elim
/-! ### list(range(..)) -/
def wListRg1 (a : W) : W := fun ρ Q X => a ρ (fun r => r.wk fun x => match x with
  | .int n => (-1000000 ≤ n ∧ n ≤ 16777216) ∧ Q (.fr (rgD 0 n))
  | _ => False) X
def wListRg2 (a b : W) : W := fun ρ Q X => a ρ (fun r => r.wk fun x => b ρ (fun s => s.wk fun y => match x, y with
  | .int i, .int j => (0 ≤ i ∧ i ≤ 16777216 ∧ 0 ≤ j ∧ j ≤ 16777216) ∧ Q (.fr (rgD i j))
  | _, _ => False) X) X
theorem rgV_D {K : PySem.W.Frag} {M : Ad} {H : Hp} {i j : Int} : DMs K M H (rgV i j) (rgD i j) := by
  unfold rgV rgD
  generalize (j - i).toNat = n
  induction n with
  | zero => exact .nil
  | succ n ih =>
    rw [List.range_succ, List.map_append, List.map_append]
    exact ih.append (.cons (.int _) .nil)
theorem ev_listRg1 {wa : W} {p2 pos2 : Pos} (hc : X.calm = true) (hg : Gl X "list") (hm : X.mg "list" = none) (hg2 : Gl X "range") (hm2 : X.mg "range" = none) (ha : PE X a (lift (pm X T) E wa)) (na : starEach [a] X.env = (false, eval a X.env) :: starEach [] X.env := by rfl)
    (na2 : starEach [.Call (.Name "range" p2) [a] [] pos2] X.env = (false, eval (.Call (.Name "range" p2) [a] [] pos2) X.env) :: starEach [] X.env := by rfl) :
    PE X (.Call (.Name "list" p) [.Call (.Name "range" p2) [a] [] pos2] [] pos) (lift (pm X T) E (wListRg1 wa)) := by
  refine PEimp (pe_listRg hc hg hm (prg_1 hg2 hm2 ha na) na2) fun σ H Q ⟨H0, M0, M, ρ, XW, Q3, re, xo, q, k⟩ => ?_
  refine ⟨H0, M0, M, ρ, XW, _, re, xo, q, fun r v H1 qr e1 t1 rr => ?_⟩
  obtain ⟨x, hx, qx⟩ := rr.weak qr
  cases x with
  | int n =>
    obtain ⟨⟨c1, c2⟩, qx⟩ := qx
    exact ⟨n, hx.int, ⟨by decide, by decide, by omega, by omega, by omega⟩, fun p np => k _ _ _ qx (e1.trans (ext_new np)) (tabs_new t1 np) (lst_new e1 np rgV_D)⟩
  | _ => exact qx.elim
theorem ev_listRg2 {wa wb : W} {p2 pos2 : Pos} (hc : X.calm = true) (hg : Gl X "list") (hm : X.mg "list" = none) (hg2 : Gl X "range") (hm2 : X.mg "range" = none) (ha : PE X a (lift (pm X T) E wa)) (hb : PE X b (lift (pm X T) E wb)) (na : starEach [a, b] X.env = (false, eval a X.env) :: starEach [b] X.env := by rfl) (nb : starEach [b] X.env = (false, eval b X.env) :: starEach [] X.env := by rfl) (hpl : (backTo pos2 (starEach [b] X.env)).any (·.1) = false := by rfl)
    (na2 : starEach [.Call (.Name "range" p2) [a, b] [] pos2] X.env = (false, eval (.Call (.Name "range" p2) [a, b] [] pos2) X.env) :: starEach [] X.env := by rfl) :
    PE X (.Call (.Name "list" p) [.Call (.Name "range" p2) [a, b] [] pos2] [] pos) (lift (pm X T) E (wListRg2 wa wb)) := by
  refine PEimp (pe_listRg hc hg hm (prg_2 hg2 hm2 ha hb na nb hpl) na2) fun σ H Q ⟨H0, M0, M, ρ, XW, Q3, re, xo, q, k⟩ => ?_
  refine ⟨H0, M0, M, ρ, XW, _, re, xo, q, fun r v H1 qr e1 t1 rr => ?_⟩
  obtain ⟨x, hx, qx⟩ := rr.weak qr
  have re1 := re.grow e1 t1
  refine ⟨H0, M0, M, ρ, XW, _, re1, xo.grow e1, qx, fun s u H2 qs e2 t2 rs => ?_⟩
  obtain ⟨y, hy, qy⟩ := rs.weak qs
  split at qy
  · obtain ⟨⟨c1, c2, c3, c4⟩, qy⟩ := qy
    exact ⟨_, _, hx.int, hy.int, RgOk.of_le c1 c4 c2 c3, fun p np => k _ _ _ qy ((e1.trans e2).trans (ext_new np)) (tabs_new t2 np) (lst_new (e1.trans e2) np rgV_D)⟩
  · exact qy.elim
/-! ### repr -/
def reprD : OpL := fun xs k => match xs with
  | [x] => (SeqAt.shaped x = true ∧ x.showable = true ∧ x.shown.length ≤ sizeLine) ∧ k (.d (.str x.shown))
  | _ => False
theorem depth_of_shaped {d : PyData} (h : SeqAt.shaped d = true) : d.depth ≤ 64 := by
  unfold SeqAt.shaped at h
  rw [Bool.and_eq_true] at h
  exact of_decide_eq_true h.2
theorem cr_repr {kk : Nat} (hgd : X.A.guards = some []) (hr : Room kk X.A) : CallR X (.builtin "repr") (rDs (pm X T) reprD) := fun pins s σ H xs us Q I r h => by
  obtain ⟨M, ds, Q3, hm, ht, hp, q, k⟩ := h
  unfold reprD at q
  split at q
  · obtain ⟨⟨c1, c2, c3⟩, q⟩ := q
    obtain ⟨v, rfl, hv⟩ := one_of hp
    obtain ⟨u, rfl, ru⟩ := r.one
    have fin := k _ _ _ q (ExtN.refl H) ht (.str _)
    have lay := lay_of_shaped c1
    obtain ⟨as, rd⟩ := Dp.reads I _ v u (hv.dp lay) ru
    have hd := depth_of_shaped c1
    have hu := hr.un
    have big : ∀ {a : Addr} {d : PyData} {as : List Addr}, Reads s.heap (.ref a) d as → d.canLay0 = true → d.showable = true → d.shown.length ≤ sizeLine → d.depth ≤ 64 → Q (.str d.shown) H → wpAny (model X.prog X.w) X.A (call (.builtin "repr") [.ref a]) (EP X pins σ Q) X.xe s := by
      intro a d as rd lay sh sz dp fin
      exact repr_of_reads' rd sh (PyData.noDict_hsm (PyData.hasDict_of_canLay d lay)) hgd (by omega) (fun _ _ z => z) (fun h' t' tk hk => ⟨.str _, H, I.kept hk, ⟨_, rfl⟩, fin⟩) sz
    rename_i x
    cases x with
    | none =>
      cases rd
      rw [PyData.shown] at fin
      exact PySem.P.repr_of_none ⟨.str "None", H, I.tok _, ⟨_, rfl⟩, fin⟩
    | bool b =>
      cases rd
      rw [PyData.shown] at fin
      exact PySem.P.repr_of_bool ⟨.str (if b then "True" else "False"), H, I.tok _, ⟨_, rfl⟩, fin⟩
    | int i =>
      cases rd
      rw [PyData.shown] at fin
      exact PySem.P.repr_of_int (by simpa [PyData.showable] using c2) ⟨.str (toString i), H, I.tok _, ⟨_, rfl⟩, fin⟩
    | str z =>
      cases rd
      rw [PyData.shown] at fin c3
      exact PySem.P.repr_of_str ⟨.str (reprText z), H, I.tok _, ⟨_, rfl⟩, fin⟩ c3
    | list zs =>
      cases rd with
      | list a1 a2 a3 a4 => exact big (.list a1 a2 a3 a4) lay c2 c3 hd fin
    | tuple zs =>
      cases rd with
      | tuple a1 a2 a3 a4 => exact big (.tuple a1 a2 a3 a4) lay c2 c3 hd fin
    | dict zs => simp [PyData.canLay0] at lay
  · exact q.elim
/-! ### names of the module -/
theorem ev_gi {x : Str} {i : Int} (hg : Gl X x) (h : ∃ t, X.mg x = some (.int i t)) (hd : (x == ("__debug__" : Str)) = false := by decide) : PE X (.Name x pos) (lift (pm X T) E (wC (.int i))) := by
  obtain ⟨t, h⟩ := h
  exact ev_c (v := .int i) (pe_glob hg h ⟨t, rfl⟩ hd) fun _ _ _ => .int i
theorem ev_gs {x z : Str} (hg : Gl X x) (h : ∃ t, X.mg x = some (.str z t)) (hd : (x == ("__debug__" : Str)) = false := by decide) : PE X (.Name x pos) (lift (pm X T) E (wC (.str z))) := by
  obtain ⟨t, h⟩ := h
  exact ev_c (v := .str z) (pe_glob hg h ⟨t, rfl⟩ hd) fun _ _ _ => .str z
theorem es_raiseE {x : Str} {pos2 : Pos} (hc : X.calm = true) (tk : Takes X (fun cls d _ H => E cls d H)) (h : ∃ C, ExC X.K X.mg x C) (hg : Gl X x) (hdb : (x == ("__debug__" : Str)) = false := by decide) :
    PS X (.Raise (some (.Call (.Name x p) [] [] pos)) none pos2) (liftS (pm X T) E (wRaise x)) := by
  obtain ⟨C, h⟩ := h
  exact es_raise hc tk h hg hdb
end
end T3
set_option linter.all false
set_option maxRecDepth 100000
set_option maxHeartbeats 2000000
set_option Elab.async false
/-! T11: a tuple times a small number, whatever it is. -/
namespace T3
open L2 LamX PySem PyProof.Rows PySem.Spec
theorem tuple_mul_same (l : Addr) (items : Array Value) (n : Nat) (dd : Option Addr) (sl : Array (Option Value)) (x : Int) (u : Tok) (c0 : (decide (x < -(2 ^ 63)) || decide (x ≥ 2 ^ 63)) = false) (c1 : (items.isEmpty || x == 1) = true) :
    Meets (Builtin.«tuple.__mul__» ⟨[.ref l, .int x u], []⟩) (fun _ R s => s.heap.get? l = some { cls := .type "tuple", dict := dd, data := .seq items n, slots := sl } ∧ R (.ok (.ret (Value.ref l))) s) :=
  .of_wp fun prog w A R s h => by
    obtain ⟨hp, g, d, tk, os⟩ := s
    obtain ⟨hl, h⟩ := h
    have f1 := AutoSeq1.idx_int
    wp_walk using wpAny_loadPart' hl
    repeat (first
      | (refine wpAny_ite_false (decide_eq_false (by rw [c0]; exact Bool.false_ne_true)) ?_; wp_walk using wpAny_loadPart' hl)
      | (refine wpAny_ite_true (decide_eq_true c1) ?_; wp_walk using wpAny_loadPart' hl))
    exact ⟨_, rfl, h⟩
theorem tuple_mul_none (l : Addr) (items : Array Value) (n : Nat) (dd : Option Addr) (sl : Array (Option Value)) (x : Int) (u : Tok) (c0 : (decide (x < -(2 ^ 63)) || decide (x ≥ 2 ^ 63)) = false) (c1 : (items.isEmpty || x == 1) = false) (c2 : (decide (x ≤ 0) || items.isEmpty) = true) :
    Meets (Builtin.«tuple.__mul__» ⟨[.ref l, .int x u], []⟩) (fun _ R s => s.heap.get? l = some { cls := .type "tuple", dict := dd, data := .seq items n, slots := sl } ∧
      R (.ok (.ret (Value.ref s.heap.objs.size))) { s with heap := s.heap.push { cls := Value.type "tuple", data := Data.seq #[] }, toks := s.toks }) :=
  .of_wp fun prog w A R s h => by
    obtain ⟨hp, g, d, tk, os⟩ := s
    obtain ⟨hl, h⟩ := h
    have f1 := AutoSeq1.idx_int
    wp_walk using wpAny_loadPart' hl
    repeat (first
      | (refine wpAny_ite_false (decide_eq_false (by rw [c0]; exact Bool.false_ne_true)) ?_; wp_walk using wpAny_loadPart' hl)
      | (refine wpAny_ite_false (decide_eq_false (by rw [c1]; exact Bool.false_ne_true)) ?_; wp_walk using wpAny_loadPart' hl)
      | (refine wpAny_ite_true (decide_eq_true c2) ?_; wp_walk using wpAny_loadPart' hl))
    exact ⟨_, rfl, h⟩
def rRepT1 (K : PySem.W.Frag) : R2 := fun x y H Q => ∃ l k xs, x = .ref l ∧ y = .int k ∧ SqT K H l xs ∧ -(2 ^ 63) ≤ k ∧ k ≤ 1000 ∧ xs.length ≤ 1000 ∧ (k = 1 ∨ xs = [] → Q (.ref l) H) ∧ ((k ≤ 0 ∨ (2 ≤ k)) → xs ≠ [] → ∀ p, H p = none → Q (.ref p) (upd H p (.tup (List.replicate k.toNat xs).flatten)))
section
variable {X : Cx}
theorem op_repT1 : OpR X (binaryOp .Mult) (rRepT1 X.K) := by
  intro pins s σ H x y v u Q I rx ry h
  obtain ⟨l, k, xs, rfl, rfl, hT, h1, h2, hz, q1, q2⟩ := h
  by_cases hbig : 2 ≤ k ∧ xs ≠ []
  · exact op_repT pins s σ H _ _ v u Q I rx ry ⟨l, k, xs, rfl, rfl, hT, hbig.2, hbig.1, h2, hz, q2 (.inr hbig.1) hbig.2⟩
  cases rx
  obtain ⟨t, rfl⟩ := ry
  obtain ⟨its, r, ⟨⟨cls, dd, data, sl⟩, ho, hc, n, hd⟩, hs⟩ := I.tuple hT
  simp only at hc hd
  subst hc hd
  have hle : its.length = xs.length := r.length.symm
  have c0 : (decide (k < -(2 ^ 63)) || decide (k ≥ 2 ^ 63)) = false := by
    rw [decide_eq_false (by omega), decide_eq_false (by omega)] <;> rfl
  by_cases he : k = 1 ∨ xs = []
  · have c1 : (its.toArray.isEmpty || k == 1) = true := by
      rcases he with he | he
      · subst he
        simp
      · subst he
        have : its = [] := List.eq_nil_of_length_eq_zero hle
        subst this
        rfl
    exact wpAny_binaryOp_repeat_ref (T := "tuple") (U := "int") (by decide) ⟨_, ho, rfl⟩ (fun s' => typeIs_int s' k t) noFill_tuple_mul F.fills_int_mul F.slot_int_rmul repeat_tuple F.slot_int_index.lookup
      (call_meets F.slot_int_rmul (typeIs_int s k t) F.entry_int_rmul (F.args_int_rmul_2 _ _) (int_rmul_tuple k t l its.toArray n dd sl)
        ⟨ho, rfl, ⟨_, ho, rfl⟩, call_meets F.slot_tuple_mul ⟨_, ho, rfl⟩ F.entry_tuple_mul (F.args_tuple_mul_2 _ _) (tuple_mul_same l its.toArray n dd sl k t c0 c1) ⟨ho, ⟨.ref l, _, I, rfl, q1 he⟩⟩⟩)
  · have hn : xs ≠ [] := fun e => he (.inr e)
    have hk : k ≤ 0 := by
      by_cases h2k : 2 ≤ k
      · exact (hbig ⟨h2k, hn⟩).elim
      · have : k ≠ 1 := fun e => he (.inl e)
        omega
    have hi : its.toArray.isEmpty = false := by
      cases its with
      | nil => exact absurd (List.eq_nil_of_length_eq_zero hle.symm) hn
      | cons a b => rfl
    have c1 : (its.toArray.isEmpty || k == 1) = false := by
      rw [hi, Bool.false_or]
      exact beq_eq_false_iff_ne.mpr (by omega)
    have c2 : (decide (k ≤ 0) || its.toArray.isEmpty) = true := by
      rw [decide_eq_true hk]
      rfl
    have hz : k.toNat = 0 := by omega
    refine wpAny_binaryOp_repeat_ref (T := "tuple") (U := "int") (by decide) ⟨_, ho, rfl⟩ (fun s' => typeIs_int s' k t) noFill_tuple_mul F.fills_int_mul F.slot_int_rmul repeat_tuple F.slot_int_index.lookup
      (call_meets F.slot_int_rmul (typeIs_int s k t) F.entry_int_rmul (F.args_int_rmul_2 _ _) (int_rmul_tuple k t l its.toArray n dd sl)
        ⟨ho, rfl, ⟨_, ho, rfl⟩, call_meets F.slot_tuple_mul ⟨_, ho, rfl⟩ F.entry_tuple_mul (F.args_tuple_mul_2 _ _) (tuple_mul_none l its.toArray n dd sl k t c0 c1 c2) ⟨ho, ?_⟩⟩)
    have q3 := q2 (.inl hk) hn
    rw [hz] at q3
    refine ⟨.ref s.heap.objs.size, _, I.laid (t' := s.toks) (o := .tup []) (fun b ob q => Heap.get?_push_of_some _ q) (Nat.le_refl _) ?_, rfl, q3 _ (I.hok.fresh (Nat.le_refl _))⟩
    exact ⟨by rw [sizeLine_eq]; exact Nat.zero_le _, [], .nil, IsTup.new _ _⟩
def mulDD : Op2 := fun x y k => match x, y with
  | .int i, .int j => (CMul i j ∨ CMulW i j) ∧ k (.d (.int (i * j)))
  | .list a, .int j => (-(2 ^ 63) ≤ j ∧ j < 2 ^ 63 ∧ a.length * j.toNat ≤ sizeLine) ∧ k (.fr (List.replicate j.toNat a).flatten)
  | .tuple a, .int j => (-(2 ^ 63) ≤ j ∧ j ≤ 1000 ∧ a.length ≤ 1000) ∧ k (.d (.tuple (List.replicate j.toNat a).flatten))
  | _, _ => False
theorem flat_nil {α : Type} : ∀ n : Nat, (List.replicate n ([] : List α)).flatten = []
  | 0 => rfl
  | n + 1 => by rw [List.replicate_succ, List.flatten_cons, flat_nil n]; rfl
theorem op_mulDD {T : List (Addr × Str)} : OpR X (binaryOp .Mult) (rD (pm X T) mulDD) := OpRimp (op_mul.or (op_mulW.or (op_rep.or op_repT1))) fun x y H Q h => by
  obtain ⟨M, d, e, Q3, hm, ht, hd, he, q, k⟩ := h
  unfold mulDD at q
  split at q
  · have w := k _ _ _ q.2 (ExtN.refl H) ht (.int _)
    rcases q.1 with c | c
    · exact .inl ⟨_, _, hd.int, he.int, c, w⟩
    · exact .inr (.inl ⟨_, _, hd.int, he.int, c, w⟩)
  · obtain ⟨a, vs, e1, l1, r1⟩ := hd.lst
    obtain ⟨⟨c1, c2, c3⟩, q⟩ := q
    refine .inr (.inr (.inl ⟨a, _, vs, e1, he.int, l1, c1, c2, by rw [r1.length]; exact c3, fun p np => ?_⟩))
    exact k _ _ _ q (ext_new np) (tabs_new ht np) (lst_new (ExtN.refl H) np (r1.rep _))
  · rename_i xs j
    obtain ⟨a, vs, e1, l1, r1⟩ := hd.tup
    obtain ⟨⟨c1, c2, c3⟩, q⟩ := q
    refine .inr (.inr (.inr ⟨a, _, vs, e1, he.int, l1.sq, c1, c2, by rw [r1.length]; exact c3, fun z => ?_, fun _ _ p np => ?_⟩))
    · refine k _ _ _ q (ExtN.refl H) ht ?_
      rcases z with z | z
      · subst z
        have e3 : (List.replicate (1 : Int).toNat xs).flatten = xs := by
          show (List.replicate 1 xs).flatten = xs
          rw [List.replicate_succ, List.replicate_zero, List.flatten_cons, List.flatten_nil, List.append_nil]
        rw [e3]
        exact .tup l1 r1
      · subst z
        cases r1
        rw [flat_nil]
        exact .tup l1 .nil
    · exact k _ _ _ q (ext_new np) (tabs_new ht np) (tup_new hm (ExtN.refl H) np (r1.rep _))
  · exact q.elim
end
end T3
set_option linter.all false
set_option maxRecDepth 100000
set_option maxHeartbeats 2000000
set_option Elab.async false
/-! T12: the hand's list in sight: the def that draws. -/
namespace T3
open L2 LamX PySem PyProof.Rows PySem.Spec
abbrev hv (c : Addr) (is : List Int) : List V := .ref c :: is.map V.int
/-- the code runs while the hand's list is a list -/
def tView (t : TS) : TS := fun D σ H => ∃ a c L, H a = some (HandO a c L) ∧ ∀ (h : Heap) (is : List Int), HandP a c L h → is.length = L → (∀ i ∈ is, 0 ≤ i) →
  t { nx := fun _ _ => False, rt := fun v H' => ∃ js : List Int, js.length = L ∧ (∀ i ∈ js, 0 ≤ i) ∧ H' a = some (.lst (hv c js)) ∧ D.rt v (upd H' a (HandO a c L)) } σ (upd H a (.lst (hv c is)))
theorem obj_hand {X : Cx} {pins : List (Addr × Obj)} {σ : St} {H : Hp} {s : Shared} {a c : Addr} {js : List Int} (I : Inv X pins σ H s) (h : H a = some (.lst (hv c js))) (h0 : ∀ i ∈ js, 0 ≤ i) (hl : js.length ≤ 8) :
    (∃ e, s.heap.get? a = some e) ∧ ObjOk X.prog X.w (upd H a (HandO a c js.length)) s.heap a (HandO a c js.length) := by
  obtain ⟨_, its, n, r, e⟩ := I.hok a _ h
  have r' : Vals (hv c js) its := r
  cases r' with
  | cons e0 r1 =>
  cases e0
  have hp : HandP a c js.length s.heap := ⟨js, _, n, e, r1, rfl, hl, h0⟩
  refine ⟨⟨_, e⟩, hp, ⟨_, e⟩, fun h1 h2 ⟨is, us, n, q, z⟩ k => ⟨is, us, n, k _ q, z⟩⟩
theorem inv_hand {X : Cx} {pins : List (Addr × Obj)} {σ : St} {H : Hp} {s : Shared} {a c : Addr} {js : List Int} (I : Inv X pins σ H s) (h : H a = some (.lst (hv c js))) (h0 : ∀ i ∈ js, 0 ≤ i) (hl : js.length ≤ 8) : Inv X pins σ (upd H a (HandO a c js.length)) s := by
  obtain ⟨e, new⟩ := obj_hand I h h0 hl
  exact I.write (x := a) (e := a) (t' := s.toks) (h' := s.heap) (by rw [h]; exact True.intro) (.inl rfl) (fun b v _ q => q) e new
theorem pss_view {X : Cx} {ss : List Stmt} {t : TS} (h : PSs X ss t) : PSs X ss (tView t) := by
  refine ⟨fun pins s σ H D I ⟨a, c, L, ha, hw⟩ => ?_⟩
  have x := I.hok a _ ha
  obtain ⟨hp, _, _⟩ := x
  have hp' : HandP a c L s.heap := hp
  obtain ⟨is, us, n, e, z1, z2, z3, z4⟩ := id hp'
  have new : ObjOk X.prog X.w (upd H a (.lst (hv c is))) s.heap a (.lst (hv c is)) :=
    ⟨by rw [sizeLine_eq]; show (is.map V.int).length + 1 ≤ _; rw [List.length_map]; omega, _, n, .cons rfl z1, e⟩
  have I1 : Inv X pins σ (upd H a (.lst (hv c is))) s := I.write (x := a) (e := a) (t' := s.toks) (h' := s.heap) (by rw [ha]; exact True.intro) (.inl rfl) (fun b v _ q => q) ⟨_, e⟩ new
  refine thn (h.run pins s σ _ _ I1 (hw s.heap is hp' z2 z4)) fun f s1 q => ?_
  cases f with
  | next => obtain ⟨σ', H', I2, q⟩ := q; exact q.elim
  | brk => obtain ⟨σ', H', I2, q⟩ := q; exact False.elim q
  | cont => obtain ⟨σ', H', I2, q⟩ := q; exact False.elim q
  | ret v =>
    obtain ⟨x, σ', H', I2, r, js, j1, j0, e, q⟩ := q
    have I3 := inv_hand I2 e j0 (by omega)
    rw [j1] at I3
    exact ⟨x, σ', _, I3, r, q⟩

/-! ### statements while it is in sight: where it lies is kept -/
/-- the hand lies at a, its cells at c -/
def HAt (a c : Addr) (σ : St) (H : Hp) : Prop := σ[0]? = some (some (.ref a)) ∧ ∃ is, H a = some (.lst (.ref c :: is))
theorem HAt.ext {a c : Addr} {σ : St} {H H' : Hp} (e : ExtN H H') (h : HAt a c σ H) : HAt a c σ H' := ⟨h.1, h.2.imp fun is q => e _ _ q (fun ps z => by cases z)⟩
/-- D3.bk: what the slots must be where the code returns -/
structure EndsH (P : Pm) (a c : Addr) (H0 : Hp) (D3 : End3) (D : Ends) : Prop where
  nx : ∀ ρ' M' H' σ', D3.nx ρ' → RE P H0 (fun _ => False) M' H' σ' ρ' → HAt a c σ' H' → D.nx σ' H'
  rt : ∀ r ρ' M' v H' σ', D3.rt r → D3.bk ρ' → RE P H0 (fun _ => False) M' H' σ' ρ' → HAt a c σ' H' → RR P.K M' H' H' v r → D.rt v H'
def liftH (P : Pm) (w : WS) : TS := fun D σ H => ∃ a c H0 M ρ D3, RE P H0 (fun _ => False) M H σ ρ ∧ HAt a c σ H ∧ w D3 ρ noX ∧ EndsH P a c H0 D3 D
/-- return e: the slots as they then are -/
def wRetH (w : W) : WS := fun D ρ X => w ρ (fun r => match r with | .d (.int n) => D.rt (.d (.int n)) ∧ D.bk ρ | _ => False) X
/-- hand[k] = v, k not 0 -/
def wSetIxH (wi wv : W) : WS := fun D ρ X => wv ρ (fun r => r.st fun y => ∃ xs, ρ[0]? = some (some (.own xs)) ∧ wi ρ (fun s => s.wk fun t => match t with
  | .int k => ∃ j, ixN xs.length k = some (j + 1) ∧ D.nx (ρ.set 0 (some (.own (xs.set (j + 1) y))))
  | _ => False) X) X
section
variable {X : Cx} {T : List (Addr × Str)} {E : XK} {e a b : Expr} {pos p : Pos}
theorem noXO {P : Pm} {M : Ad} {H : Hp} : XOk P E noX M H := fun _ _ _ _ h => False.elim h
theorem hs_nil : PSs X [] (liftH (pm X T) wNext) := PSsimp pss_nil fun D σ H ⟨a, c, H0, M, ρ, D3, re, h0, q, k⟩ => k.nx ρ M H σ q re h0
theorem hs_cons {st : Stmt} {rest : List Stmt} {t u : WS} (h1 : PS X st (liftH (pm X T) t)) (h2 : PSs X rest (liftH (pm X T) u)) : PSs X (st :: rest) (liftH (pm X T) (wSeq t u)) :=
  PSsimp (pss_cons h1 h2) fun D σ H ⟨a, c, H0, M, ρ, D3, re, h0, q, k⟩ => ⟨a, c, H0, M, ρ, _, re, h0, q, fun ρ' M' H' σ' q' re' h' => ⟨a, c, H0, M', ρ', D3, re', h', q', k⟩, k.rt⟩
theorem hs_one {st : Stmt} {t : WS} (h1 : PS X st (liftH (pm X T) t)) : PSs X [st] (liftH (pm X T) t) := pss_one h1
theorem hs_if {c : Expr} {sa sb : List Stmt} {wc : WB} {wa wb : WS} (hc : PT X c (liftB (pm X T) E0 wc)) (ha : PSs X sa (liftH (pm X T) wa)) (hb : PSs X sb (liftH (pm X T) wb)) : PS X (.If c sa sb pos) (liftH (pm X T) (wIfS wc wa wb)) :=
  PSimp (ps_if hc ha hb) fun D σ H ⟨a, c, H0, M, ρ, D3, re, h0, q, k⟩ => ⟨H0, _, M, ρ, noX, _, re, noXO, q, fun z H1 qc e1 t1 => by
    cases z with
    | true => exact ⟨a, c, H0, M, ρ, D3, re.grow e1 t1, h0.ext e1, qc, k⟩
    | false => exact ⟨a, c, H0, M, ρ, D3, re.grow e1 t1, h0.ext e1, qc, k⟩⟩
theorem hs_ret {w : W} (he : PE X e (lift (pm X T) E0 w)) : PS X (.Return (some e) pos) (liftH (pm X T) (wRetH w)) := by
  refine PSimp (ps_ret he) fun D σ H ⟨a, c, H0, M, ρ, D3, re, h0, q, k⟩ => ?_
  refine ⟨H0, _, M, ρ, noX, _, re, noXO, q, fun r v H1 qr e1 t1 rr => ?_⟩
  split at qr
  · exact k.rt _ ρ M v H1 σ qr.1 qr.2 (re.grow e1 t1) (h0.ext e1) rr
  · exact qr.elim
/-- a name of its own, but not the hand's -/
theorem hs_set {i : Nat} {x : Str} {w : W} {pos' : Pos} (hz : i ≠ 0) (hN : X.N.Nodup) (hi : X.N[i]? = some x) (hx : Loc X.env.scope x) (he : PE X e (lift (pm X T) E0 w)) (hs : swapsWith e (some (.Name x pos')) pos.line X.env = pure false := by rfl) (hf : X.fn x = true ∨ X.env.scope.names.lookup x = some .local := by first | exact .inl rfl | exact .inr rfl | assumption) :
    PS X (.Assign [.Name x pos'] e pos) (liftH (pm X T) (wSet i w)) := PSimp (ps_set hN hi hx he hs hf) fun D σ H ⟨a, c, H0, M, ρ, D3, re, h0, q, k⟩ => by
  refine ⟨H0, _, M, ρ, noX, _, re, noXO, q, fun r v H1 qr e1 t1 rr => ?_⟩
  obtain ⟨z, hz', qz⟩ := rr.arg re.mdom qr
  exact k.nx _ M H1 _ qz ((re.grow e1 t1).set i hz') ⟨by rw [List.getElem?_set_ne hz]; exact h0.1, (h0.ext e1).2⟩
theorem hs_setIx {wi wv : W} {v : Expr} {spos : Pos} (hv : PE X v (lift (pm X T) E0 wv)) (ho : PE X a (tVar 0)) (hk : PE X b (lift (pm X T) E0 wi))
    (ha : ∀ v, assign (.Subscript a b spos) X.env v = (do
      let ov ← holding [v] (eval a X.env)
      let iv ← holding [v, ov] (eval b X.env)
      standAt spos
      holding [v, ov, iv] (setItem ov iv v)
      release [v, ov, iv] []) := by intro _; rfl)
    (hs : swapsWithSole [.Subscript a b spos] v pos.line X.env = pure false := by rfl) (hw : swappedStores [.Subscript a b spos] v X.env = pure none := by rfl)
    (h1 : (assignEach [.Subscript a b spos] X.env).map (·.2) = [assign (.Subscript a b spos) X.env] := by rfl) :
    PS X (.Assign [.Subscript a b spos] v pos) (liftH (pm X T) (wSetIxH wi wv)) := by
  refine PSimp (ps_asg hv (pg_sub ho hk set_list ha) hs hw h1) fun D σ H ⟨a, c, H0, M, ρ, D3, re, h0, q, k⟩ => ?_
  refine ⟨H0, _, M, ρ, noX, _, re, noXO, q, fun r u H1 qr e1 t1 rr => ?_⟩
  obtain ⟨y, hy, xs, hx, qy⟩ := rr.strong re.mdom qr
  have re1 := re.grow e1 t1
  obtain ⟨v', h1, p, vs, rfl, m, hp, hd⟩ := re1.slot 0 _ hx
  refine ⟨_, h1, H0, _, M, ρ, noX, _, re1, noXO, qy, fun s w H2 qs e2 t2 rs => ?_⟩
  obtain ⟨t, ht, qt⟩ := rs.weak qs
  have re2 := re1.grow e2 t2
  have hp2 : H2 p = some (.lst vs) := e2 _ _ hp (fun ps q => by cases q)
  cases t with
  | int n =>
    obtain ⟨j, hj, qj⟩ := qt
    obtain ⟨h00, is, h01⟩ := (h0.ext e1).ext e2
    rw [h00] at h1
    cases h1
    rw [hp2] at h01
    cases h01
    exact ⟨_, _, n, j + 1, rfl, ht.int, hp2, by rw [hd.length]; exact hj, k.nx _ M _ σ qj (re2.upd hx h00 ((DMs.fm (.of e2) hd).set (DM.fm (.of e2) hy) (j + 1))) ⟨h00, is.set j u, by rw [upd_same] <;> rfl⟩⟩
  | _ => exact qt.elim
end
/-- a draw: some number below many -/
def C_draw (L : Nat) : Ct := fun rs Q _ => ∃ m : Int, rs = [.hand L, .d (.int m)] ∧ 0 < m ∧ m < 1073741824 ∧ ∀ n : Int, 0 ≤ n → n < m → Q (.d (.int n))
def drawR (N : List Str) (ns is : List Int) (m : Int) : Env3 := some (.own (.list (ns.map .int) :: is.map .int)) :: some (.d (.int m)) :: List.replicate (N.length - 2) none
theorem dms_ints {K : PySem.W.Frag} {M : Ad} {H : Hp} : ∀ ns : List Int, DMs K M H (ns.map V.int) (ns.map PyData.int)
  | [] => .nil
  | n :: ns => .cons (.int n) (dms_ints ns)
theorem dms_ints_inv {K : PySem.W.Frag} {M : Ad} {H : Hp} : ∀ {ns : List Int} {vs : List V}, DMs K M H vs (ns.map PyData.int) → vs = ns.map V.int
  | [], _, h => by
    cases h
    rfl
  | n :: ns, _, h => by
    cases h with
    | cons a b =>
    cases a
    rw [dms_ints_inv b]
    rfl
theorem tabs_hand {T : List (Addr × Str)} {H : Hp} {a c : Addr} {L : Nat} {h : Heap} {vs : List V} (t : Tabs T H) (ha : H a = some (HandO a c L)) (hp : HandP a c L h) : Tabs T (upd H a (.lst vs)) := fun z hz => by
  obtain ⟨ps, h1, h2, h3⟩ := t z hz
  refine ⟨ps, ?_, h2, fun pos cv hc => ?_⟩
  · rw [upd_ne (ne_of h1 ha (fun q => by cases q))]
    exact h1
  · obtain ⟨c', e1, e2⟩ := h3 pos cv hc
    refine ⟨c', e1, ?_⟩
    rw [upd_ne (show c' ≠ a from fun w => by
      rw [w, ha] at e2
      have e3 : HandO a c L = CodeO a z.2 := Option.some.inj e2
      have e4 := congrFun (HO.ext.inj e3) h
      obtain ⟨oc, us, tk, q1, q2, _⟩ := e4.mp hp
      obtain ⟨is, us, n, q, _⟩ := hp
      rw [q] at q1
      cases q1
      cases q2)]
    exact e2
theorem tabs_back {T : List (Addr × Str)} {H : Hp} {p : Addr} {vs : List V} {o : HO} (t : Tabs T H) (hp : H p = some (.lst vs)) : Tabs T (upd H p o) := fun z hz => by
  obtain ⟨ps, h1, h2, h3⟩ := t z hz
  refine ⟨ps, ?_, h2, fun pos cv hc => ?_⟩
  · rw [upd_ne (ne_of h1 hp (fun q => by cases q))]
    exact h1
  · obtain ⟨c, e1, e2⟩ := h3 pos cv hc
    refine ⟨c, e1, ?_⟩
    rw [upd_ne (ne_of e2 hp (fun q => by cases q))]
    exact e2
/-- the slots at the start of a draw -/
theorem re_draw {P : Pm} {H : Hp} {N : List Str} {a c : Addr} {L : Nat} {h : Heap} {ns is : List Int} {m : Int} (ht : Tabs P.T H) (ha : H a = some (HandO a c L)) (hc : H c = some (.lst (ns.map V.int))) (hp : HandP a c L h) :
    RE P (fun b => if b = a then none else H b) (fun _ => False) (fun b => b = a) (upd H a (.lst (hv c is))) (L2.start N [.ref a, .int m]) (drawR N ns is m) := by
  have ca : c ≠ a := fun z => by
    rw [z, ha] at hc
    cases hc
  have hs : L2.start N [.ref a, .int m] = some (.ref a) :: some (.int m) :: List.replicate (N.length - 2) none := rfl
  have hnone : ∀ (i : Nat) (k : Nat) (r : R), (List.replicate k (none : Option R))[i]? = some (some r) → False := fun i k r q => by
    rw [List.getElem?_replicate] at q
    split at q <;> cases q
  refine ⟨fun b o q nt => ?_, tabs_hand ht ha hp, fun _ z => z.elim, fun b hb z => ?_, fun b hb => .inr ?_, fun _ z => z.elim, fun i r q => ?_, fun i y b my q hσ => ?_, fun i j y y2 b my my2 hne q1 q2 hσ hσ2 => ?_, by rw [hs]; unfold drawR; simp⟩
  · by_cases hb : b = a
    · subst hb
      simp at q
    · simp only [if_neg hb] at q
      rw [upd_ne hb]
      exact q
  · subst hb
    obtain ⟨ps, w⟩ := z _ upd_same
    cases w
  · subst hb
    exact .of_none (by simp)
  · rw [hs]
    unfold drawR at q
    match i, q with
    | 0, q =>
      cases q
      refine ⟨_, rfl, a, _, rfl, rfl, upd_same, .cons (.lst ⟨ca, ?_⟩ (dms_ints ns)) (dms_ints is)⟩
      rw [upd_ne ca]
      exact hc
    | 1, q =>
      cases q
      exact ⟨_, rfl, .int m⟩
    | i + 2, q => exact (hnone i _ r q).elim
  · unfold drawR at q
    rw [hs] at hσ
    match i, q with
    | 0, q =>
      cases hσ
      exact .of_none (by simp)
    | 1, q =>
      cases q
      exact my.elim
    | i + 2, q => exact (hnone i _ _ q).elim
  · unfold drawR at q1 q2
    match i, j, q1, q2 with
    | 0, 0, _, _ => exact hne rfl
    | 0, 1, _, q2 =>
      cases q2
      exact my2.elim
    | 0, j + 2, _, q2 => exact (hnone j _ _ q2).elim
    | 1, _, q1, _ =>
      cases q1
      exact my.elim
    | i + 2, _, q1, _ => exact (hnone i _ _ q1).elim
/-- where a draw returns, the hand is one again -/
theorem draw_end {P : Pm} {H0 H : Hp} {M : Ad} {σ : St} {ρ : Env3} {a c : Addr} {ns js : List Int} (re : RE P H0 (fun _ => False) M H σ ρ) (h0 : HAt a c σ H) (h : ρ[0]? = some (some (.own (.list (ns.map .int) :: js.map .int)))) :
    H a = some (.lst (hv c js)) := by
  obtain ⟨h00, is, h01⟩ := h0
  obtain ⟨v, h1, p, vs, rfl, m, hp, hd⟩ := re.slot 0 _ h
  rw [h00] at h1
  cases h1
  rw [hp] at h01
  cases h01
  rw [hp]
  cases hd with
  | cons d0 r1 => rw [dms_ints_inv r1]
theorem cal_draw {g : Bool} {P : Program} {w : World} {K : PySem.W.Frag} {mg : Str → Option Value} {base : Heap} {T : List (Addr × Str)} {k L : Nat} {x : Str} {st : Stmt} {p1 p2 : Str} {N : List Str} {Pc : Value → Prop} {wb : WS} (D : Def K mg x st Pc) (S : FnScope N [p1, p2] (defScope st)) (hb : BindsBy x st [p1, p2])
    (hbody : ∀ (f : Addr) (cdv : Value) (A : Around) (outer : List Env) (s : Shared) (H : Hp) (E : XK), Pc cdv → Room k (A.deeper (envOfC x (defScope st) s.heap.objs.size f cdv)) →
      PSs (cxOf (L2.CX P w) P w K mg base N x (defScope st) f cdv A outer s H E) (defBody st) (liftH ⟨K, mg, T⟩ wb))
    (hpure : ∀ (ns is : List Int) (m : Int), is.length = L → (∀ i ∈ is, 0 ≤ i) → 0 < m → m < 1073741824 →
      wb { nx := fun _ => False, rt := fun r => ∃ n : Int, r = .d (.int n) ∧ 0 ≤ n ∧ n < m, bk := fun ρ => ∃ js : List Int, js.length = L ∧ (∀ i ∈ js, 0 ≤ i) ∧ ρ[0]? = some (some (.own (.list (ns.map .int) :: js.map .int))) } (drawR N ns is m) noX) :
    Cal g P w K mg base T (k + 1) x (C_draw L) := by
  obtain ⟨f, oc, od, kV, doc, pm, an, cdv, ct, osl, hm, lk, hc, hk, hpc⟩ := D.ex
  have hB := hb kV doc pm an cdv ct
  have len' : ∀ vs H Q E, spC ⟨K, mg, T⟩ (C_draw L) vs H Q E → vs.length = [p1, p2].length := fun vs H Q E ⟨M0, rs, Q3, X3, _, _, ra, ⟨m, e, _⟩, _⟩ => by
    rw [ra.length, e]
    rfl
  refine ⟨f, _, [p1, p2], ⟨len', fun A outer s H args us vs Q E hr hg e0 hb2 r hs => ?_⟩, .all hB, hk, hm⟩
  refine run_ofS lk hc S hr e0 hb2 r (len' _ _ _ _ hs) fun hr' => ⟨tView (liftH ⟨K, mg, T⟩ wb), pss_view (hbody f cdv A outer s H E hpc hr'), ?_⟩
  obtain ⟨M0, rs, Q3, X3, hm2, ht, ra, ⟨m, e, m0, m1, hQ3⟩, hQ, hE⟩ := hs
  subst e
  cases ra with
  | cons ra0 ra1 =>
  cases ra1 with
  | cons ra1 ra2 =>
  cases ra2
  obtain ⟨a, rfl, c, ns, ma, mc, ha, hcells⟩ := ra0
  cases ra1
  refine ⟨a, c, L, ha, fun h is hp z1 z2 => ?_⟩
  refine ⟨a, c, _, _, _, _, re_draw ht ha hcells hp, ⟨rfl, _, upd_same⟩, hpure ns is m z1 z2 m0 m1, fun ρ' M' H' σ' q re h => q.elim, fun r ρ' M' v H' σ' qr qb re hat rr => ?_⟩
  obtain ⟨n, rfl, n0, n1⟩ := qr
  obtain ⟨js, j1, j0, hρ⟩ := qb
  have hH := draw_end re hat hρ
  refine ⟨js, j1, j0, hH, ?_⟩
  cases rr
  refine hQ _ _ _ (hQ3 n n0 n1) (fun b o q nt => ?_) (tabs_back re.tabs hH) (.int n)
  by_cases hb : b = a
  · subst hb
    rw [upd_same, ← q, ha]
  · rw [upd_ne hb]
    exact re.ext b o (by simp only [if_neg hb]; exact q) nt
end T3
set_option linter.all false
set_option maxRecDepth 100000
set_option maxHeartbeats 2000000
set_option Elab.async false
/-! T13: the script cut; the def that makes the hand. -/
namespace T3
open L2 LamX PySem PyProof.Rows PySem.Spec
section
variable {X : Cx} {T : List (Addr × Str)} {E : XK} {e a b : Expr} {pos p : Pos}
/-- a part of the script -/
def wSlS (i : Nat) (lo hi : WO) : W := fun ρ Q X => ∃ ns : List Int, ρ[i]? = some (some (.scr ns)) ∧ lo ρ (fun l => hi ρ (fun h => Q (.fr ((cut ns l h).map .int))) X) X
theorem cut_map {α β : Type} (f : α → β) (xs : List α) (lo hi : Option Int) : cut (xs.map f) lo hi = (cut xs lo hi).map f := by
  unfold T3.cut
  rw [List.length_map, List.map_take, List.map_drop]
theorem cutV_ints (ns : List Int) (lo hi : Option Int) : cutV (ns.map V.int) lo hi = (cut ns lo hi).map V.int := by
  rw [← cut_map]
  rfl
theorem ev_slS {i : Nat} {lo hi : Option Expr} {wl wh : WO} {p2 : Pos} (he : PE X e (tVar i)) (hl : PO X lo (liftO (pm X T) E wl)) (hh : PO X hi (liftO (pm X T) E wh)) :
    PE X (.Subscript e (.Slice lo hi none p2) pos) (lift (pm X T) E (wSlS i wl wh)) := by
  refine PEimp (pe_slice sl_list he hl hh) fun σ H Q ⟨H0, M0, M, ρ, XW, Q3, re, xo, ⟨ns, hi, q⟩, k⟩ => ?_
  obtain ⟨v, h1, a, rfl, hs⟩ := re.slot i _ hi
  refine ⟨_, h1, H0, M0, M, ρ, XW, _, re, xo, q, fun l H2 ql e2 t2 => ?_⟩
  refine ⟨H0, M0, M, ρ, XW, _, re.grow e2 t2, xo.grow e2, ql, fun h H3 qh e3 t3 => ?_⟩
  have e13 := e2.trans e3
  refine ⟨a, _, rfl, (hs.fm (.of e13)).sq, fun p np => k _ _ _ qh (e13.trans (ext_new np)) (tabs_new t3 np) (lst_new e13 np ?_)⟩
  rw [cutV_ints]
  exact dms_ints _
end
/-- what is returned becomes the hand -/
def tMk (L : Nat) (t : TS) : TS := fun D σ H => t { nx := fun _ _ => False, rt := fun v H' => ∃ (a c : Addr) (js : List Int), v = .ref a ∧ H' a = some (.lst (hv c js)) ∧ js.length = L ∧ L ≤ 8 ∧ (∀ j ∈ js, 0 ≤ j) ∧ D.rt v (upd H' a (HandO a c L)) } σ H
theorem pss_mk {X : Cx} {ss : List Stmt} {t : TS} {L : Nat} (h : PSs X ss t) : PSs X ss (tMk L t) := by
  refine ⟨fun pins s σ H D I hw => ?_⟩
  refine thn (h.run pins s σ _ _ I hw) fun f s1 q => ?_
  cases f with
  | next => obtain ⟨σ', H', I2, q⟩ := q; exact q.elim
  | brk => obtain ⟨σ', H', I2, q⟩ := q; exact False.elim q
  | cont => obtain ⟨σ', H', I2, q⟩ := q; exact False.elim q
  | ret v =>
    obtain ⟨x, σ', H', I2, r, a, c, js, rfl, e, j1, j2, j0, q⟩ := q
    have I3 := inv_hand I2 e j0 (by omega)
    rw [j1] at I3
    exact ⟨_, σ', _, I3, r, q⟩
def C_hand (L : Nat) : Ct := fun rs Q _ => ∃ ns : List Int, rs = [.scr ns] ∧ ns.length ≤ 63 ∧ Q (.hand L)
theorem cal_hand {g : Bool} {P : Program} {w : World} {K : PySem.W.Frag} {mg : Str → Option Value} {base : Heap} {T : List (Addr × Str)} {k : Nat} {x : Str} {st : Stmt} {p1 : Str} {N : List Str} {Pc : Value → Prop} {wb : WS} (L : Nat) (hL : L ≤ 8) (D : Def K mg x st Pc) (S : FnScope N [p1] (defScope st)) (hb : BindsBy x st [p1])
    (hbody : ∀ (f : Addr) (cdv : Value) (A : Around) (outer : List Env) (s : Shared) (H : Hp) (E : XK), Pc cdv → Room k (A.deeper (envOfC x (defScope st) s.heap.objs.size f cdv)) →
      PSs (cxOf (L2.CX P w) P w K mg base N x (defScope st) f cdv A outer s H E) (defBody st) (liftS ⟨K, mg, T⟩ E wb))
    (hpure : ∀ (ns : List Int), ns.length ≤ 63 → wb { nx := fun _ => False, rt := fun r => ∃ ms js : List Int, r = .fr (.list (ms.map .int) :: js.map .int) ∧ js.length = L ∧ ∀ j ∈ js, 0 ≤ j } (startR N [.scr ns]) noX) :
    Cal g P w K mg base T (k + 1) x (C_hand L) := by
  obtain ⟨f, oc, od, kV, doc, pm, an, cdv, ct, osl, hm, lk, hc, hk, hpc⟩ := D.ex
  have hB := hb kV doc pm an cdv ct
  have len' : ∀ vs H Q E, spC ⟨K, mg, T⟩ (C_hand L) vs H Q E → vs.length = [p1].length := fun vs H Q E ⟨M0, rs, Q3, X3, _, _, ra, ⟨m, e, _⟩, _⟩ => by
    rw [ra.length, e]
    rfl
  refine ⟨f, _, [p1], ⟨len', fun A outer s H args us vs Q E hr hg e0 hb2 r hs => ?_⟩, .all hB, hk, hm⟩
  refine run_ofS lk hc S hr e0 hb2 r (len' _ _ _ _ hs) fun hr' => ⟨tMk L (liftS ⟨K, mg, T⟩ E wb), pss_mk (hbody f cdv A outer s H E hpc hr'), ?_⟩
  obtain ⟨M0, rs, Q3, X3, hm2, ht, ra, ⟨ns, e, hn, hQ3⟩, hQ, hE⟩ := hs
  subst e
  refine ⟨H, M0, M0, startR N [.scr ns], noX, _, re_start hm2 ht ra, hpure ns hn, fun ρ' M' H' σ' q re => q.elim, fun _ _ _ _ q _ => q.elim, fun _ _ _ _ q _ => q.elim, fun _ _ _ _ z => z.elim, fun r v H' q e t rr => ?_⟩
  obtain ⟨ms, js, rfl, j1, j0⟩ := q
  obtain ⟨p, vs, rfl, o, hp, hd⟩ := rr
  cases hd with
  | cons d0 r1 =>
  cases d0 with
  | lst l0 r0 =>
  rename_i c cs
  have e1 := dms_ints_inv r1
  subst e1
  have e2 := dms_ints_inv r0
  subst e2
  have hpe : ∀ b o', H b = some o' → (∀ ps, o' ≠ .tbl ps) → b ≠ p := fun b o' q nt z => by
    rw [z] at q
    obtain ⟨ps, w⟩ := o _ q
    exact nt ps w
  refine ⟨p, c, js, rfl, hp, j1, hL, j0, hQ _ _ _ hQ3 (fun b o' q nt => ?_) (tabs_back t hp) ⟨p, rfl, c, ms, fun z => hm2 p z o, fun z => l0.1 (.inl z), upd_same, ?_⟩⟩
  · rw [upd_ne (hpe b o' q nt)]
    exact e b o' q nt
  · rw [upd_ne (fun z => l0.1 (.inr z))]
    exact l0.2
end T3
set_option linter.all false
set_option maxRecDepth 100000
set_option maxHeartbeats 2000000
set_option Elab.async false
/-! T14: the end of a law: its def asked at a script, the head by facts. -/
namespace T3
open L2 LamX PySem PyProof.Rows PySem.Spec
/-- what is tracked where the law is asked: the tables, and the script if the top's fragment does not tell it -/
def hp0 (K : PySem.W.Frag) (tb : List Addr) (a : Addr) (o : Obj) (vs : List V) : Hp := fun b => if b ∈ tb then some (.tbl #[]) else if b = a ∧ K.lookup a = none then some (.frz o (.lst vs)) else none
theorem law_run {P : Program} {w : World} {K : PySem.W.Frag} {mg mb : Str → Option Value} {k : Nat} {fa a : Addr} {cs : List (Addr × Addr)} {T : List (Addr × Str)} {fd : FuncData} {x : Str} {C : Ct} {s : Shared} {us : List Value} {ns : List Int}
    (inK : K.In s.heap) (nsG : s.heap.Ns mainGlobals mg) (nsB : s.heap.Ns builtinsNs mb) (boot : ∀ y : Str, y ≠ "__name__" → mb y = bootBuiltins y) (nolim : s.heap.NoLimit) (nogen : s.gens = #[])
    (tabE : ∀ q ∈ cs, s.heap.get? q.2 = some { cls := .none, data := .fields #[] }) (tabK : ∀ q ∈ cs, K.lookup q.2 = none) (tabC : ∀ q ∈ cs, PySem.W.CodeHd s.heap q.1 q.2)
    (bmain : ∃ (bm : Addr) (ob : Obj), mg "__builtins__" = some (.ref bm) ∧ bm ≠ builtinsNs ∧ s.heap.get? bm = some ob ∧ ob.cls = .type "module" ∧ ob.dict = some builtinsNs ∧ ob.data = .plain)
    (scrO : s.heap.get? a = some { cls := .type "list", data := .seq us.toArray }) (scrI : IntsAre us ns) (scrL : ns.length ≤ sizeLine) (room : Room k callerA)
    (ok : ∀ base : Heap, K.In base → base.Ns mainGlobals mg → (∀ q ∈ cs, TabB base mg q.1 q.2) → FnG true P w K mg base k fa fd [x] (spC ⟨K, mg, T⟩ C)) (bnd : ∀ (s : Shared) (u : Value), BindsTo s fd ⟨[u], []⟩ [(x, u)])
    (inT : ∀ t ∈ T, ∃ q ∈ cs, q.2 = t.1) (hC : C [.scr ns] (fun r => r = .d (.bool true)) noX) :
    codeAny (model P w) callerA (.call (.ref fa) ⟨[.ref a], []⟩) (fun r t => r = .ok (.ret (.bool true)) ∧ OldK s.heap t.heap ∧ t.os = s.os ∧ AllBare t.gens) s := by
  have rel := vals_ints scrI
  have tb : ∃ l : List Addr, l = cs.map (·.2) := ⟨_, rfl⟩
  obtain ⟨tb, etb⟩ := tb
  have inTb : ∀ q ∈ cs, q.2 ∈ tb := fun q hq => by rw [etb]; exact List.mem_map.mpr ⟨q, hq, rfl⟩
  have ofTb : ∀ b ∈ tb, ∃ q ∈ cs, q.2 = b := fun b hb => by rw [etb] at hb; exact List.mem_map.mp hb
  have tbO : ∀ b ∈ tb, s.heap.get? b = some { cls := .none, data := .fields #[] } := fun b hb => by
    obtain ⟨q, hq, e⟩ := ofTb b hb
    subst e
    exact tabE q hq
  have aTb : a ∉ tb := fun z => by
    have q := tbO a z
    rw [scrO] at q
    cases q
  have sO : ∃ o : Obj, o = { cls := .type "list", data := .seq us.toArray } := ⟨_, rfl⟩
  obtain ⟨o, eo⟩ := sO
  have S : ∃ S : Hp, S = hp0 K tb a o (ns.map V.int) := ⟨_, rfl⟩
  obtain ⟨S, eS⟩ := S
  have S_tb : ∀ b ∈ tb, S b = some (.tbl #[]) := fun b hb => by
    rw [eS]
    exact if_pos hb
  have S_cases : ∀ b u, S b = some u → (b ∈ tb ∧ u = .tbl #[]) ∨ (b = a ∧ K.lookup a = none ∧ u = .frz o (.lst (ns.map V.int))) := fun b u q => by
    rw [eS] at q
    unfold hp0 at q
    by_cases h1 : b ∈ tb
    · rw [if_pos h1] at q
      exact .inl ⟨h1, (Option.some.inj q).symm⟩
    · rw [if_neg h1] at q
      by_cases h2 : b = a ∧ K.lookup a = none
      · rw [if_pos h2] at q
        exact .inr ⟨h2.1, h2.2, (Option.some.inj q).symm⟩
      · rw [if_neg h2] at q
        cases q
  have S_data : ∀ {b ob}, s.heap.get? b = some ob → (∀ v n, ob.data ≠ .seq v n) → ob.data ≠ .fields #[] → S b = none := fun {b ob} e n1 n2 => by
    cases q : S b with
    | none => rfl
    | some u =>
      rcases S_cases b u q with ⟨h, _⟩ | ⟨h, _⟩
      · rw [tbO b h] at e
        cases e
        exact (n2 rfl).elim
      · rw [h, scrO] at e
        cases e
        exact (n1 _ _ rfl).elim
  have S_K : ∀ {b ob}, K.lookup b = some ob → S b = none := fun {b ob} e => by
    cases q : S b with
    | none => rfl
    | some u =>
      rcases S_cases b u q with ⟨h, _⟩ | ⟨h, h2, _⟩
      · obtain ⟨q2, hq, e2⟩ := ofTb b h
        subst e2
        rw [tabK q2 hq] at e
        cases e
      · rw [h, h2] at e
        cases e
  have toB : ∀ {b ob}, s.heap.get? b = some ob → S b = none → (hidT s.heap S).get? b = some ob := fun e n => hidT_get e n
  have nsOf : ∀ {b m}, s.heap.Ns b m → (hidT s.heap S).Ns b m := fun {b m} ⟨ob, es, ep, e, d, r⟩ =>
    ⟨ob, es, ep, toB e (S_data e (fun v n z => by rw [d] at z; cases z) fun z => by rw [d] at z; cases z), d, r⟩
  have kB : K.In (hidT s.heap S) := fun b ob e => toB (inK b ob e) (S_K e)
  have md : L2.Mod K mg (hidT s.heap S) := ⟨kB, nsOf nsG, ⟨mb, nsOf nsB, boot⟩, let ⟨mc, h1, h2⟩ := nolim; ⟨mc, nsOf h1, h2⟩⟩
  have okS : HOk P w S s.heap := fun b u q => by
    rcases S_cases b u q with ⟨h, rfl⟩ | ⟨h, _, rfl⟩
    · exact tbO b h
    · subst h
      subst eo
      exact ⟨scrO, by rw [List.length_map]; exact scrL, us, _, rel, scrO⟩
  have TB : ∀ q ∈ cs, TabB (hidT s.heap S) mg q.1 q.2 := fun q hq => by
    have hE := tabE q hq
    refine ⟨?_, ?_, fun z => ?_⟩
    · obtain ⟨oc, vs, file, tf, flags, tg, inF, text, tt, e1, r1, r2, r3, r4, r5, r6, r7, r8, hne⟩ := tabC q hq
      refine ⟨oc, vs, file, tf, flags, tg, inF, text, tt, toB e1 (S_data e1 (fun v n z => ?_) fun z => ?_), r1, r2, r3, r4, r5, r6, r7, r8, hne⟩
      · rw [r2] at z
        cases z
      · rw [r2] at z
        cases z
        simp at r3
    · obtain ⟨bm, ob, b1, b2, b3, b4, b5, b6⟩ := bmain
      refine ⟨bm, ob, b1, b2, fun z => ?_, fun z => ?_, toB b3 (S_data b3 (fun v n z => ?_) fun z => ?_), b4, b5, b6⟩
      · obtain ⟨o2, es, ep, e, hd, _⟩ := nsG
        rw [z, e] at b3
        cases b3
        rw [hd] at b6
        cases b6
      · rw [z, hE] at b3
        cases b3
        cases b6
      · rw [b6] at z
        cases z
      · rw [b6] at z
        cases z
    · obtain ⟨o2, es, ep, e, hd, _⟩ := nsG
      rw [z, hE] at e
      cases e
      cases hd
  have e0 : Env0 P w K mg (hidT s.heap S) callerA [] s S := ⟨rfl, md, fun b ob e => of_hidT e, Nat.le_of_eq (hidT_size _ _), trivial, fun b hb => (by cases hb), okS, .of_eq nogen⟩
  have tabs : Tabs T S := fun t ht => by
    obtain ⟨q, hq, e⟩ := inT t ht
    exact .nil (by rw [← e]; exact S_tb _ (inTb q hq))
  have scr : ScrM K (fun _ => False) S a (ns.map V.int) := by
    cases hk : K.lookup a with
    | none =>
      refine .inl ⟨fun z => z, o, ?_⟩
      rw [eS]
      unfold hp0
      rw [if_neg aTb, if_pos ⟨rfl, hk⟩]
    | some ob =>
      have e := inK a ob hk
      rw [scrO] at e
      cases e
      exact .inr (.inr ⟨_, us.toArray, _, hk, rfl, rfl, rfl, by rw [List.size_toArray, scrI.length]; exact scrL, by simpa using rel⟩)
  have sp : spC ⟨K, mg, T⟩ C [.ref a] S (fun v _ => v = .bl true) fun _ _ _ => False :=
    ⟨fun _ => False, [.scr ns], _, noX, fun _ z => z.elim, tabs, .cons ⟨a, rfl, scr⟩ .nil, hC, fun r v H' q _ _ rr => by
      subst q
      cases rr
      rfl, fun _ _ _ _ z => False.elim z⟩
  refine codeAny_mono ((ok _ kB (nsOf nsG) TB).run callerA [] s S ⟨[.ref a], []⟩ [.ref a] [.ref a] _ _ room (fun _ => rfl) e0 (bnd s (.ref a)) (.cons rfl .nil) sp) fun r t h => ?_
  match r, h with
  | .error e, h =>
    obtain ⟨_, _, _, _, _, _, _, _, _, _, _, _, z⟩ := h
    exact z.elim
  | .ok .next, h => exact False.elim h
  | .ok .brk, h => exact False.elim h
  | .ok .cont, h => exact False.elim h
  | .ok (.ret u), ⟨v, H', os, bare, un, ok', r', q⟩ =>
    have q' : v = .bl true := q
    subst q'
    obtain rfl : u = Value.bool true := r'
    have stay : ∀ b ob, b ∉ tb → s.heap.get? b = some ob → t.heap.get? b = some ob := fun b ob nb e => by
      cases q : S b with
      | none => exact un.keep b ob e q (fun z => by cases z) (by simp)
      | some z =>
        rcases S_cases b z q with ⟨h, _⟩ | ⟨_, _, rfl⟩
        · exact (nb h).elim
        · obtain ⟨e1, _⟩ := okS b _ q
          obtain ⟨e2, _⟩ := ok' b _ (un.frzs b _ _ q)
          rw [e] at e1
          rw [e2, e1]
    have grown : ∀ b ∈ tb, ∃ more : Array Value, t.heap.get? b = some { cls := .none, data := .fields (#[] ++ more) } := fun b hb => by
      obtain ⟨more, z⟩ := un.tbls b #[] (S_tb b hb)
      exact ⟨more, ok' b _ z⟩
    refine ⟨rfl, ⟨fun b ob e => ?_, fun b ob e => ?_⟩, os, bare⟩
    · by_cases hb : b ∈ tb
      · obtain ⟨more, hm⟩ := grown b hb
        obtain ⟨q, hq, eb⟩ := ofTb b hb
        subst eb
        rw [tabE q hq] at e
        cases e
        exact .inr (.inl ⟨((tabC q hq).tab (tabE q hq)).isCodeTable, rfl, #[], more, rfl, hm⟩)
      · exact .inl (stay b ob hb e)
    · by_cases hb : b ∈ tb
      · obtain ⟨more, hm⟩ := grown b hb
        exact ⟨_, hm⟩
      · exact ⟨ob, stay b ob hb e⟩
end T3
set_option linter.all false
set_option maxRecDepth 100000
set_option maxHeartbeats 2000000
set_option Elab.async false
/-! T15: count, index; a caught error looked at; the def that makes a word of a call. -/
namespace T3
open L2 LamX PySem PyProof.Rows PySem.Spec

/-! ### count, index -/
section
variable {X : Cx} {T : List (Addr × Str)} {E : XK} {e a b : Expr} {pos p : Pos}
theorem PEor {t t' : TE} (h : PE X e t) (h' : PE X e t') : PE X e (fun σ H Q => t σ H Q ∨ t' σ H Q) := ⟨fun pins s σ H Q I q => q.elim (h.run pins s σ H Q I) (h'.run pins s σ H Q I)⟩
def rCntD (K : PySem.W.Frag) (t : Bool) : V → List V → Hp → VK → Prop := fun x xs H Q => ∃ (c : Addr) (y : V) (d : PyData) (ds : List PyData), x = V.ref c ∧ xs = [y] ∧ Dp K H (V.ref c) (if t = true then .tuple ds else .list ds) ∧ Dp K H y d ∧
  SeqAt.shaped (.list ds) = true ∧ SeqAt.shaped d = true ∧ Q (.int ((ds.countP fun z => PyData.eqv z d : Nat) : Int)) H
theorem cnt_map {h : Heap} {its : List Value} {ds : List PyData} {d : PyData} (e : its.map (SeqAt.readOf h) = ds) : its.countP (fun u => PyData.eqv (SeqAt.readOf h u) d) = ds.countP fun z => PyData.eqv z d := by
  rw [← e, List.countP_map]
  rfl
theorem mt_cntL (hu : X.A.units + 65 < cLine) : MtR X "list.count" (rCntD X.K false) := by
  intro pins s σ H x xs v us Q I rx rxs h
  obtain ⟨c, y, d, ds, rfl, rfl, hl, hy, sl, sd, q⟩ := h
  cases rx
  cases rxs with
  | cons ry rt =>
    rename_i uy ut
    cases rt
    obtain ⟨bs, r1⟩ := Dp.reads I d y uy hy ry
    have hxs : PyData.canLayAll0 ds = true := lay_of_shaped sl
    have hroom : X.A.units + 1 + min (PyData.depthAll ds) d.depth < cLine := room_in_shaped sd hu
    have hl' : Dp X.K H (V.ref c) (.list ds) := hl
    cases hl' with
    | lst hs ha =>
      obtain ⟨its, rv, ⟨⟨cls, dd, data, sls⟩, n, ho, hc, hdn, hdt⟩, hlen⟩ := I.list hs
      simp only at hc hdt
      subst hc hdt
      obtain ⟨as, h4⟩ := Dp.readsAll I ds _ its ha rv
      have hmap := SeqAt.readsAll_map ds its as hxs h4
      refine call_meets PySem.F.slot_list_count ⟨_, ho, rfl⟩ PySem.F.entry_list_count (PySem.F.args_list_count_2 _ _)
        (SeqAt.list_countAt c its.toArray n dd sls uy (fun u => PyData.eqv (SeqAt.readOf s.heap u) d)) ⟨ho, SeqAt.items_eqAt (vs := its.toArray) (show ReadsAll s.heap its.toArray.toList ds as from h4) r1 hxs (lay_of_shaped sd) hroom, ?_⟩
      exact ⟨.int _, H, I.tok _, ⟨s.toks, by rw [← cnt_map (d := d) hmap]⟩, q⟩
theorem mt_cntT (hu : X.A.units + 65 < cLine) : MtR X "tuple.count" (rCntD X.K true) := by
  intro pins s σ H x xs v us Q I rx rxs h
  obtain ⟨c, y, d, ds, rfl, rfl, hl, hy, sl, sd, q⟩ := h
  cases rx
  cases rxs with
  | cons ry rt =>
    rename_i uy ut
    cases rt
    obtain ⟨bs, r1⟩ := Dp.reads I d y uy hy ry
    have hxs : PyData.canLayAll0 ds = true := lay_of_shaped sl
    have hroom : X.A.units + 1 + min (PyData.depthAll ds) d.depth < cLine := room_in_shaped sd hu
    have hl' : Dp X.K H (V.ref c) (.tuple ds) := hl
    cases hl' with
    | tup hs ha =>
      obtain ⟨its, rv, ⟨⟨cls, dd, data, sls⟩, ho, hc, n, hdt⟩, hlen⟩ := I.tuple hs
      simp only at hc hdt
      subst hc hdt
      obtain ⟨as, h4⟩ := Dp.readsAll I ds _ its ha rv
      have hmap := SeqAt.readsAll_map ds its as hxs h4
      refine call_meets PySem.F.slot_tuple_count ⟨_, ho, rfl⟩ PySem.F.entry_tuple_count (PySem.F.args_tuple_count_2 _ _)
        (SeqAt.tuple_countAt c its.toArray n dd sls uy (fun u => PyData.eqv (SeqAt.readOf s.heap u) d)) ⟨ho, SeqAt.items_eqAt (vs := its.toArray) (show ReadsAll s.heap its.toArray.toList ds as from h4) r1 hxs (lay_of_shaped sd) hroom, ?_⟩
      exact ⟨.int _, H, I.tok _, ⟨s.toks, by rw [← cnt_map (d := d) hmap]⟩, q⟩
/-- x.count(y), x.index(y), x a list -/
def wCount (wa wb : W) : W := fun ρ Q X => wa ρ (fun r => r.wk fun x => match x with
  | .list ds => wb ρ (fun s => s.wk fun y => SeqAt.shaped (.list ds) = true ∧ SeqAt.shaped y = true ∧ Q (.d (.int ((ds.countP fun z => PyData.eqv z y : Nat) : Int)))) X
  | _ => False) X
def wIndex (wa wb : W) : W := fun ρ Q X => wa ρ (fun r => r.wk fun x => match x with
  | .list ds => wb ρ (fun s => s.wk fun y => SeqAt.shaped (.list ds) = true ∧ SeqAt.shaped y = true ∧ ∃ (j : Nat) (z : PyData), ds[j]? = some z ∧ PyData.eqv z y = true ∧ (∀ (m : Nat) (z' : PyData), m < j → ds[m]? = some z' → PyData.eqv z' y = false) ∧ Q (.d (.int (j : Nat)))) X
  | _ => False) X
theorem dp_list {K : PySem.W.Frag} {M : Ad} {H : Hp} {v : V} {ds : List PyData} (h : WR K M H v (.list ds)) (sh : SeqAt.shaped (.list ds) = true) : ∃ a, v = .ref a ∧ Dp K H (.ref a) (.list ds) := by
  obtain ⟨a, vs, rfl, _, _⟩ := h.lst
  exact ⟨a, rfl, h.dp (lay_of_shaped sh)⟩
theorem ev_count {apos : Pos} {wa wb : W} (hu : X.A.units + 65 < cLine) (ha : PE X a (lift (pm X T) E wa)) (hb : PE X b (lift (pm X T) E wb)) (hbase : attributeBase a "count" X.env (eval a X.env) = eval a X.env := by rfl)
    (hfew : ((backTo pos (starEach [b] X.env)).all (fun x => !x.1) && (backToKw pos (keywordEach [] X.env)).all (fun x => x.1.isSome) && decide ([b].length + ([] : List Keyword).length + (if ([] : List Keyword).isEmpty then 0 else 1) < 30)) = true := by rfl)
    (hline : (apos.endLine == pos.line) = true := by rfl) (hs : starEach [b] X.env = (false, eval b X.env) :: starEach [] X.env := by rfl) (hplain : (backTo pos (starEach [] X.env)).any (·.1) = false := by rfl) :
    PE X (.Call (.Attribute a "count" apos) [b] [] pos) (lift (pm X T) E (wCount wa wb)) := by
  refine PEimp (pe_bm PySem.F.plainAttrs_list PySem.F.slot_list_count PySem.F.type_list_count (mt_cntL hu) (apos := apos) (cpos := pos) ha (pa_cons hb pa_nil hs) hbase hfew hline hs hplain) fun σ H Q ⟨H0, M0, M, ρ, XW, Q3, re, xo, q, k⟩ => ?_
  refine ⟨H0, M0, M, ρ, XW, _, re, xo, q, fun r v H1 qr e1 t1 rr => ?_⟩
  obtain ⟨x, hx, qx⟩ := rr.weak qr
  cases x with
  | list ds =>
    obtain ⟨c, vs, rfl, hc, _⟩ := hx.lst
    refine ⟨tyl hc, H0, M0, M, ρ, XW, _, re.grow e1 t1, xo.grow e1, qx, fun s u H2 qs e2 t2 rs => ?_⟩
    obtain ⟨y, hy, s1, s2, qy⟩ := rs.weak qs
    obtain ⟨c', e3, hd⟩ := dp_list (hx.ext e2) s1
    cases e3
    exact ⟨c, u, y, ds, rfl, rfl, hd, hy.dp (lay_of_shaped s2), s1, s2, k _ _ H2 qy (e1.trans e2) t2 (.int _)⟩
  | _ => exact qx.elim
theorem ev_index {apos : Pos} {wa wb : W} (hu : X.A.units + 65 < cLine) (ha : PE X a (lift (pm X T) E wa)) (hb : PE X b (lift (pm X T) E wb)) (hbase : attributeBase a "index" X.env (eval a X.env) = eval a X.env := by rfl)
    (hfew : ((backTo pos (starEach [b] X.env)).all (fun x => !x.1) && (backToKw pos (keywordEach [] X.env)).all (fun x => x.1.isSome) && decide ([b].length + ([] : List Keyword).length + (if ([] : List Keyword).isEmpty then 0 else 1) < 30)) = true := by rfl)
    (hline : (apos.endLine == pos.line) = true := by rfl) (hs : starEach [b] X.env = (false, eval b X.env) :: starEach [] X.env := by rfl) (hplain : (backTo pos (starEach [] X.env)).any (·.1) = false := by rfl) :
    PE X (.Call (.Attribute a "index" apos) [b] [] pos) (lift (pm X T) E (wIndex wa wb)) := by
  refine PEimp (pe_bm PySem.F.plainAttrs_list PySem.F.slot_list_index PySem.F.type_list_index (mt_indexD hu) (apos := apos) (cpos := pos) ha (pa_cons hb pa_nil hs) hbase hfew hline hs hplain) fun σ H Q ⟨H0, M0, M, ρ, XW, Q3, re, xo, q, k⟩ => ?_
  refine ⟨H0, M0, M, ρ, XW, _, re, xo, q, fun r v H1 qr e1 t1 rr => ?_⟩
  obtain ⟨x, hx, qx⟩ := rr.weak qr
  cases x with
  | list ds =>
    obtain ⟨c, vs, rfl, hc, _⟩ := hx.lst
    refine ⟨tyl hc, H0, M0, M, ρ, XW, _, re.grow e1 t1, xo.grow e1, qx, fun s u H2 qs e2 t2 rs => ?_⟩
    obtain ⟨y, hy, s1, s2, j, z, z1, z2, z3, qy⟩ := rs.weak qs
    obtain ⟨c', e3, hd⟩ := dp_list (hx.ext e2) s1
    cases e3
    exact ⟨c, u, y, ds, j, z, rfl, rfl, hd, hy.dp (lay_of_shaped s2), s1, s2, z1, z2, z3, k _ _ H2 qy (e1.trans e2) t2 (.int _)⟩
  | _ => exact qx.elim
end

/-! ### a caught error -/
section
variable {X : Cx} {T : List (Addr × Str)} {E : XK} {e e2 : Expr} {pos p : Pos}
/-- isinstance(e, C), e the error at a -/
def wIsE (i : Nat) (a : Addr) (b : Bool) : W := fun ρ Q _ => ρ[i]? = some (some (.adr a)) ∧ Q (.d (.bool b))
theorem ev_isE {a D : Addr} {oe : Obj} {pn : List (Addr × Obj)} {i : Nat} {c : V} {cv : Value} {b : Bool} (C : L2.ExcC X.K D) (hz : Zc (.ref D) none oe) (hf : ∃ vs, oe.data = .fields vs) (hg : Gl X "isinstance") (hm : X.mg "isinstance" = none)
    (he : PE (X.suite a ((a, oe) :: pn)) e (tVar i)) (hc : PE (X.suite a ((a, oe) :: pn)) e2 (tC c)) (hcv : ∀ u, RelV c u → u = cv) (hk : PySem.W.kitOne X.K (.ref D) cv = some b)
    (hs : starEach [e, e2] X.env = (false, eval e X.env) :: starEach [e2] X.env := by rfl) (hs2 : starEach [e2] X.env = (false, eval e2 X.env) :: starEach [] X.env := by rfl) (hpl : (backTo pos (starEach [e2] X.env)).any (·.1) = false := by rfl) :
    PE (X.suite a ((a, oe) :: pn)) (.Call (.Name "isinstance" p) [e, e2] [] pos) (lift (pm X T) E (wIsE i a b)) := by
  refine PEimp (pe_callB (X := X.suite a ((a, oe) :: pn)) (call_isE C hz hf) hg hm bb_isinstance (pa_cons he (pa_cons hc pa_nil hs2) hs) (by decide) (by decide) hs hpl) fun σ H Q ⟨H0, M0, M, ρ, XW, Q3, re, xo, ⟨hr, q⟩, k⟩ => ?_
  obtain ⟨v, h1, h2⟩ := re.slot i _ hr
  have h2' : v = .ref a := h2
  subst h2'
  exact ⟨_, h1, c, cv, b, rfl, hcv, hk, k _ _ H q (ExtN.refl H) re.tabs (.bl b)⟩
end
end T3
set_option linter.all false
set_option maxRecDepth 100000
set_option maxHeartbeats 2000000
set_option Elab.async false
/-! T16: the defs that make a word of a call. -/
namespace T3
open L2 LamX PySem PyProof.Rows PySem.Spec
abbrev wCx (X : Cx) (Ng : List Str) (x : Str) (sg : Scope) (g : Addr) (cdg : Value) (s : Shared) (H : Hp) : Cx := (cxOf C8.CX0 X.prog X.w X.K X.mg X.base Ng x sg g cdg X.A X.stack s H C8.E0).nox
/-- an error of the class at C -/
def Caught (P : Pm) (wd : Exc → Option Str) (x : Exc) (cls : Value) (d : Option Addr) : Prop := (∃ z, wd x = some z) ∧ x.arg = none ∧ ∃ C, P.mg x.name = some (.ref C) ∧ cls = .ref C ∧ d = none
theorem caught_of {P : Pm} {M : Ad} {wd : Exc → Option Str} {x : Exc} {z : Str} {cls : Value} {d : Option Addr} {H : Hp} (hz : wd x = some z) (ha : x.arg = none) (h : RX P M x cls d H) : Caught P wd x cls d := by
  obtain ⟨C, h1, h2, h3⟩ := h
  rw [ha] at h3
  exact ⟨⟨z, hz⟩, ha, C, h1, h2, h3⟩
/-- the suite's reading, whatever was caught -/
def tSuite (P : Pm) (n : Nat) (wd : Exc → Option Str) (ws : Addr → Exc → WS) (a : Addr) (cls : Value) (d : Option Addr) : TS := fun D σ H => σ.length = n → ∃ x, Caught P wd x cls d ∧ liftS P C8.E0 (ws a x) D σ H
theorem pss_suite {X : Cx} {ss : List Stmt} {P : Pm} {n : Nat} {wd : Exc → Option Str} {ws : Addr → Exc → WS} {a : Addr} {cls : Value} {d : Option Addr} (hn : X.N.length = n) (h : ∀ x, Caught P wd x cls d → PSs X ss (liftS P C8.E0 (ws a x))) : PSs X ss (tSuite P n wd ws a cls d) := by
  refine ⟨fun pins s σ H D I q => ?_⟩
  obtain ⟨x, hx, q⟩ := q (I.len.trans hn)
  exact (h x hx).run pins s σ H D I q
/-- slots of which nothing is known but that i holds the error -/
def errR (n i : Nat) (a : Addr) : Env3 := (List.replicate n none).set i (some (.adr a))
theorem re_err {P : Pm} {H : Hp} {σ : St} {n i : Nat} {a : Addr} (t : Tabs P.T H) (hl : σ.length = n) : RE P H (fun _ => False) (fun _ => False) H (σ.set i (some (.ref a))) (errR n i a) := by
  have no : ∀ (j : Nat) (r : R), (List.replicate n (none : Option R))[j]? = some (some r) → False := fun j r q => by
    rw [List.getElem?_replicate] at q
    split at q <;> cases q
  refine ⟨.refl H, t, fun _ z => z, fun _ z => z.elim, fun _ z => z.elim, fun _ z => z.elim, fun j r q => ?_, fun j y b my q hσ => ?_, fun j k y y2 b my my2 hne q1 q2 hσ hσ2 => ?_, by unfold errR; simp [hl]⟩
  · unfold errR at q
    rcases set_get q with ⟨e, e2, hi⟩ | ⟨ne, q⟩
    · subst e
      cases e2
      exact ⟨.ref a, by rw [List.getElem?_set_self (by simpa [hl] using hi)], rfl⟩
    · exact (no j r q).elim
  · unfold errR at q
    rcases set_get q with ⟨e, e2, hi⟩ | ⟨ne, q⟩
    · cases e2
      exact my.elim
    · exact (no j _ q).elim
  · unfold errR at q1
    rcases set_get q1 with ⟨e, e2, hi⟩ | ⟨ne, q⟩
    · cases e2
      exact my.elim
    · exact (no j _ q).elim
/-- try: call() / except C as e: suite (that returns) / return told -/
theorem word_rets {X : Cx} {T : List (Addr × Str)} {Ng : List Str} {x a en q told ck : Str} {sg : Scope} {g CK : Addr} {cdg : Value} {i j : Nat} {b₀ : Stmt} {suite : List Stmt} {p1 p2 p3 p4 p5 p6 p7 p8 : Pos} {wd : Exc → Option Str} {ws : Addr → Exc → WS}
    (nd : Ng.Nodup) (hi : Ng[i]? = some en) (hln : ∀ (s : Shared) (H : Hp), (wCx X Ng x sg g cdg s H).env.kindOf en = some .local) (hge : sg.names.lookup ck = some .globalImplicit) (hde : (ck == ("__debug__" : Str)) = false) (hck : X.mg ck = some (.ref CK))
    (h0 : ∀ f : Addr, (L2.start Ng [V.ref f])[0]? = some (some (V.ref f)))
    (hsu : ∀ (s : Shared) (H : Hp) (a : Addr) (oe : Obj) (cls : Value) (d : Option Addr) (pn : List (Addr × Obj)), Zc cls d oe → (∃ vs, oe.data = .fields vs) → ∀ y, Caught (pm X T) wd y cls d → PSs ((wCx X Ng x sg g cdg s H).suite a ((a, oe) :: pn)) (b₀ :: suite) (liftS (pm X T) C8.E0 (ws a y)))
    (hex : ∀ y z C, wd y = some z → X.mg y.name = some (.ref C) → PySem.W.exmOne X.K (.ref C) (.ref CK) = some true) (harg : ∀ y z, wd y = some z → y.arg = none)
    (hpure : ∀ (a : Addr) (y : Exc) (z : Str), wd y = some z → ws a y { nx := fun _ => False, rt := fun r => r = .d (.str z) } (errR Ng.length i a) noX) :
    GivesTo X Ng x sg g cdg [.Try [.Expr (.Call (.Name a p1) [] [] p2) p3] [.ExceptHandler (some (.Name ck p4)) (some en) (b₀ :: suite) p5] [] [] p6, .Return (some (.Constant (.str told) j p7)) p8] a q (TWord (pm X T) told wd) := by
  intro f c' s H Q tl act hc ⟨Ew, hEw, h⟩
  refine ⟨_, pss_cons (ps_try_as (X := wCx X Ng x sg g cdg s H) (c := .ref CK) (i := i)
      (tb := fun W D σ H => ∃ Ech : XK, (∀ cls d σ' H', Ech cls d H' → W cls d σ' H') ∧ σ[0]? = some (some (.ref f)) ∧ H c' = some (CodeO c' q) ∧ tl Ech H (fun _ H' => D.nx σ H'))
      (ts := tSuite (pm X T) Ng.length wd ws) rfl rfl nd hi (hln s H) ⟨hge, hde, .inl hck⟩ L2.takes0 (fun W pn xe tk _ => ?_) (fun a oe cls d pn hz hf => pss_suite rfl (hsu s H a oe cls d pn hz hf))) (pss_one (ps_ret pe_str)), ?_⟩
  · refine ⟨fun pins s' σ H' D I h' => ?_⟩
    obtain ⟨Ech, hW, h1, h2, h3⟩ := h'
    exact (pss_one (ps_expr (act W pn xe Ech p1 p2 tk hW))).run pins s' σ H' D I ⟨h1, h2, h3⟩
  · refine ⟨Ew, fun cls d σ' H' he => ?_, h0 f, hc, h⟩
    obtain ⟨y, z, hz, rx, t', mono⟩ := hEw cls d H' he
    have rx' := rx
    obtain ⟨C, g1, g2, _⟩ := rx'
    subst g2
    refine ⟨true, hex y z C hz g1, fun _ a' ha' hl => ?_, fun h => by cases h⟩
    refine ⟨y, caught_of hz (harg y z hz) rx, H', fun _ => False, fun _ => False, errR Ng.length i a', noX, _, re_err t' (by simpa using hl), hpure a' y z hz, fun _ _ _ _ q _ => q.elim, fun _ _ _ _ q _ => q.elim, fun _ _ _ _ q _ => q.elim, fun _ _ _ _ q => False.elim q, fun r v H2 hq e2 t2 rr => ?_⟩
    subst hq
    cases rr
    exact mono H2 e2 t2
end T3
set_option linter.all false
set_option maxRecDepth 100000
set_option maxHeartbeats 2000000
set_option Elab.async false
/-! T17: lambdas by a def's facts; what the head tells, as facts of defs, names and classes. -/
namespace T3
open L2 LamX PySem PyProof.Rows PySem.Spec
/-- a def's code object has a table: q, what its lambdas are called -/
def PcL (mg : Str → Option Value) (base : Heap) (T : List (Addr × Str)) (q : Str) : Value → Prop := fun cdv => ∃ c Pt, cdv = .ref c ∧ TabB base mg c Pt ∧ (Pt, q) ∈ T ∧ ∀ t ∈ T, t.1 = Pt → t.2 = q
section
variable {X : Cx} {T : List (Addr × Str)} {E : XK} {e a b : Expr} {pos p : Pos}
theorem es_dead {st : Stmt} : PS X st (liftS (pm X T) E fun _ _ _ => False) := ⟨fun _ _ _ _ _ _ ⟨_, _, _, _, _, _, _, q, _⟩ => q.elim⟩
theorem passLam {A : Around} {outer : List Env} {s : Shared} {H : Hp} {E : XK} {scope : Scope} {f c' : Addr} : L2.Passes (L2.CX (lamCx X A outer s H E scope f c').prog (lamCx X A outer s H E scope f c').w) (lamCx X A outer s H E scope f c') E :=
  passes_call (X := lamCx X A outer s H E scope f c') (takes_of rfl rfl rfl rfl) fun _ _ _ _ h => h
theorem pe_cls {x : Str} {C : Addr} (hg : Gl X x) (h : X.mg x = some (.ref C)) (hd : (x == ("__debug__" : Str)) = false := by decide) : PE X (.Name x pos) (tC (.ref C)) := pe_glob hg h rfl hd
theorem bb_ve : bootBuiltins "ValueError" = some (.type "ValueError") := by decide +kernel
theorem pe_ve (hg : Gl X "ValueError") (h : X.mg "ValueError" = none) : PE X (.Name "ValueError" pos) (tC (.ty "ValueError")) := pe_bltn hg h bb_ve rfl
theorem ev_wordD {told : Str} {wd : Exc → Option Str} {wc : W} {x ar : Str} {st : Stmt} {Ng : List Str} {k : Nat} {params : Arguments} {body : Expr} {scope : Scope} {lpos : Pos} (Dg : Def X.K X.mg x st anyC) (hb : BindsBy x st [ar]) (Sg : FnScope Ng [ar] (defScope st)) (hNg : Ng[0]? = some ar) (hva : Vis (defScope st) ar)
    (hG : ∀ g cdv, GivesTo X Ng x (defScope st) g cdv (defBody st) ar (X.env.qual ++ "<lambda>") (TWord (pm X T) told wd)) (hg : Gl X x) (hc : PcL X.mg X.base T (X.env.qual ++ "<lambda>") X.env.code) (hr : Room (k + 2) X.A) (L : LamS X.env.scope scope) (hdef : defaultsOf params X.env = ([], []))
    (hbind : ∀ (q : Str) (cl : List (Str × Addr)) (pm cv ctv : Value), bindArgs (PySem.W.kla_fn "<lambda>" q params body scope cl pm cv ctv) ⟨[], []⟩ = pure [])
    (hbody : ∀ (A : Around) (outer : List Env) (s : Shared) (H : Hp) (E' : XK) (f c' : Addr), Room k (A.deeper (lamEnv X scope s.heap.objs.size f c')) → PE (lamCx X A outer s H E' scope f c') body (lift (pm X T) E' wc))
    (hdb : (x == ("__debug__" : Str)) = false := by decide) (hd : (ar == ("__debug__" : Str)) = false := by decide) (hcd : (ar == ("__classdict__" : Str)) = false := by decide) :
    PE X (.Call (.Name x p) [.Lambda params body scope lpos] [] pos) (lift (pm X T) E (wWord told wd wc)) := by
  obtain ⟨f, oc, od, kV, doc, pm', an, cdv, ct, osl, hm, lk, hcd', hk, _⟩ := Dg.ex
  obtain ⟨c, Pt, e1, TB, hT, hu⟩ := hc
  exact ev_word hg hm hk lk hcd' (.all (hb kV doc pm' an cdv ct)) Sg hNg hva (hG f cdv) TB e1 hT hu hr L hdef hbind hbody hdb hd hcd
end
/-! ### what the head tells -/
section
variable {K : PySem.W.Frag} {mg : Str → Option Value} {h : Heap}
theorem def_of {x : Str} {st : Stmt} {fd : FuncData} (X : K.In h) (G : h.Ns mainGlobals mg) (F : FunD K x x (defArgs st) (defBody st) (defScope st) [] [] (He.fAd K (x, none)) fd) (c : (He.Fa.glo x).ok K = true) {Pc : Value → Prop} (hp : ∀ cdv oc od osl, K.lookup (He.fAd K (x, none)) = some ⟨oc, od, .func fd, osl⟩ → fd.code = cdv → PySem.W.codeIn K cdv x = true → Pc cdv) : Def K mg x st Pc := by
  obtain ⟨oc, od, dV, kV, doc, pm, an, cdv, ct, osl, e, l, hc, hd, _⟩ := F.ex
  rcases hd with ⟨_, e2⟩ | ⟨e2, _⟩
  · subst e2
    have hpc := hp cdv oc od osl l (by rw [e]) hc
    refine ⟨_, oc, od, kV, doc, pm, an, cdv, ct, osl, He.glo_ok X G c, ?_, hc, F.kp, hpc⟩
    rw [← e]
    exact l
  · exact absurd rfl e2
theorem exc_of {x : Str} (X : K.In h) (G : h.Ns mainGlobals mg) (c : (He.Fa.glo x).ok K = true) (c2 : (He.Fa.exc x).ok K = true) : ∃ C, ExC K mg x C := by
  obtain ⟨h1, h2, h3, h4⟩ := He.exc_ok c2
  exact ⟨_, He.glo_ok X G c, h1, h2, h3, h4⟩
/-- an error class that an except suite looks at -/
def errB (K : PySem.W.Frag) (ck : Str) (ys : List (Str × Bool)) (x : Str) : Bool :=
  He.eqO (PySem.W.findIn K (.ref (He.ga K x)) "__getattribute__") (some (some (.builtin "BaseException.__getattribute__"))) && He.eqO (PySem.W.findIn K (.ref (He.ga K x)) "__getattr__") (some none) &&
  decide (PySem.W.subIn K (.ref (He.ga K x)) (.type "BaseException") = some true) && PySem.W.hasDictIn K (He.ga K x) && He.eqO (PySem.W.findIn K (.ref (He.ga K x)) "__class__") (some (some (.builtin "object.__class__"))) &&
  He.eqO (PySem.W.specialIn K (.builtin "object.__class__") "__get__") (some (some (.builtin "getset_descriptor.__get__"))) && decide (PySem.W.takesIn K (.builtin "object.__class__") = some true) && decide (PySem.W.mroIn K (He.ga K x) (.type "object") = some true) &&
  decide (PySem.W.exmOne K (.ref (He.ga K x)) (.ref (He.ga K ck)) = some true) && decide (PySem.W.kitOne K (.ref (He.ga K x)) (.type "ValueError") = some true) && ys.all fun y => decide (PySem.W.kitOne K (.ref (He.ga K x)) (.ref (He.ga K y.1)) = some y.2) && decide (PySem.W.exmOne K (.ref (He.ga K x)) (.ref (He.ga K y.1)) = some y.2)
structure ErrC (K : PySem.W.Frag) (mg : Str → Option Value) (ck : Str) (ys : List (Str × Bool)) (x : Str) : Prop where
  ex : ∃ C CK, mg x = some (.ref C) ∧ mg ck = some (.ref CK) ∧ L2.ExcC K C ∧ PySem.W.exmOne K (.ref C) (.ref CK) = some true ∧ PySem.W.kitOne K (.ref C) (.type "ValueError") = some true ∧
    ∀ y ∈ ys, ∀ Y, mg y.1 = some (.ref Y) → PySem.W.kitOne K (.ref C) (.ref Y) = some y.2 ∧ PySem.W.exmOne K (.ref C) (.ref Y) = some y.2
theorem err_of {x ck : Str} {ys : List (Str × Bool)} (X : K.In h) (G : h.Ns mainGlobals mg) (c : (He.Fa.glo x).ok K = true) (ck' : (He.Fa.glo ck).ok K = true) (cy : ∀ y ∈ ys, (He.Fa.glo y.1).ok K = true) (hB : errB K ck ys x = true) : ErrC K mg ck ys x := by
  unfold errB at hB
  simp only [Bool.and_eq_true, decide_eq_true_eq, List.all_eq_true] at hB
  obtain ⟨⟨⟨⟨⟨⟨⟨⟨⟨⟨h1, h2⟩, h3⟩, h4⟩, h5⟩, h6⟩, h7⟩, h8⟩, h9⟩, h10⟩, h11⟩ := hB
  refine ⟨_, _, He.glo_ok X G c, He.glo_ok X G ck', ⟨He.eqO_ok h1, He.eqO_ok h2, h3, h4, He.eqO_ok h5, He.eqO_ok h6, h7, h8⟩, h9, h10, fun y hy Y hY => ?_⟩
  have e := hY.symm.trans (He.glo_ok X G (cy y hy))
  cases e
  exact h11 y hy
end
/-! ### the end -/
theorem FnG.weak {g : Bool} {P : Program} {w : World} {K : PySem.W.Frag} {mg : Str → Option Value} {base : Heap} {k : Nat} {f : Addr} {fd : FuncData} {ps : List Str} {sp : Sp} (F : FnG g P w K mg base k f fd ps sp) : FnG true P w K mg base k f fd ps sp :=
  ⟨F.len, fun A outer s H args us vs Q E hr hg => F.run A outer s H args us vs Q E hr (fun _ => hg rfl)⟩
structure LawG (l : PySem.W.OpenLaw) (w : World) (K : PySem.W.Frag) (k n : Nat) (x : Str) (mg : Str → Option Value) (fa : Addr) (h : Heap) : Prop where
  ex : ∃ (fd : FuncData) (cs : List (Addr × Addr)) (T : List (Addr × Str)) (C : Ct), (∀ q ∈ cs, h.get? q.2 = some { cls := .none, data := .fields #[] }) ∧ (∀ q ∈ cs, K.lookup q.2 = none) ∧ (∀ q ∈ cs, PySem.W.CodeHd h q.1 q.2) ∧
    (∀ (s : Shared) (u : Value), BindsTo s fd ⟨[u], []⟩ [(x, u)]) ∧ (∀ t ∈ T, ∃ q ∈ cs, q.2 = t.1) ∧ (∀ ns : List Int, ns.length ≤ n → C [.scr ns] (fun r => r = .d (.bool true)) noX) ∧
    ∀ base : Heap, K.In base → base.Ns mainGlobals mg → (∀ q ∈ cs, TabB base mg q.1 q.2) → FnG true l.prog w K mg base k fa fd [x] (spC ⟨K, mg, T⟩ C)
theorem walk_G {l : PySem.W.OpenLaw} {n k : Nat} {q : Program} {loose : List Str} {XP : (Str → Option Value) → Heap → Prop} {YP : World → Heap → Prop} {d : DefRec} {x : Str} (most : l.most = some n) (few : n ≤ sizeLine) (nodef : d.params.defaults = []) (room : Room k callerA)
    (F : ∀ (w : World) (mg : Str → Option Value) (fa : Addr) (h : Heap), YP w h → h.Ns mainGlobals mg → mg d.name = some (.ref fa) → ∃ K : PySem.W.Frag, K.In h ∧ LawG l w K k n x mg fa h) : PySem.W.WalkO q loose XP YP l.row.toRowW d [] (fun f vs => PySem.call f vs) := by
  refine Att.attach_callB most nodef fun w s0 s1 mg mb fa o pm cd doc a vs ns G Y ho hd hcd hmg scr isInts len _ gens => ?_
  obtain ⟨K, inK, ⟨fd, cs, T, C, c1, c2, c3, c4, c5, c6, c7⟩⟩ := F w mg fa _ Y G.T.g hmg
  exact law_run inK G.T.g G.T.b G.T.builtins G.T.nolimit gens c1 c2 c3 G.T.bmain scr isInts (Nat.le_trans len few) room c7 c4 c5 (c6 ns len)
end T3
set_option linter.all false
set_option maxRecDepth 100000
set_option maxHeartbeats 2000000
set_option Elab.async false
/-! T18: readings unfolded; loops by rules. -/
namespace T3
open L2 LamX PySem PyProof.Rows PySem.Spec
theorem passL {P : Program} {w : World} {Y : Cx} : L2.Passes (L2.CX P w) Y E0 := fun _ _ _ _ _ _ _ ⟨_, _, _, _, _, _, _, _, _, _, _, _, z⟩ => False.elim z
/-- a comprehension, item by item: o, what is made of x (none: nothing) -/
inductive Made (S : PyData → Option PyData → Prop) : List PyData → List PyData → Prop
  | nil : Made S [] []
  | keep {x y : PyData} {xs ys : List PyData} : S x (some y) → Made S xs ys → Made S (x :: xs) (y :: ys)
  | drop {x : PyData} {xs ys : List PyData} : S x none → Made S xs ys → Made S (x :: xs) ys
theorem lc_rule {tg : Tg} {tt : WB} {te : W} {ρ : Env3} {Q : List PyData → Prop} (S : PyData → Option PyData → Prop) : ∀ (xs acc : List PyData),
    (∀ x ∈ xs, ∀ k : Option PyData → Prop, (∀ o, S x o → k o) → tgW tg x ρ fun ρ' => tt ρ' (fun b => if b = true then te ρ' (fun r => r.st fun y => k (some y)) noX else k none) noX) → (∀ ys, Made S xs ys → Q (acc ++ ys)) → lcL tg tt te ρ Q xs acc
  | [], acc, _, h => by
    have z := h [] .nil
    rw [List.append_nil] at z
    exact z
  | x :: xs, acc, hs, h => by
    unfold lcL
    refine hs x List.mem_cons_self (fun o => match o with | some y => lcL tg tt te ρ Q xs (acc ++ [y]) | none => lcL tg tt te ρ Q xs acc) fun o ho => ?_
    cases o with
    | some y =>
      refine lc_rule S xs (acc ++ [y]) (fun z hz => hs z (List.mem_cons_of_mem _ hz)) fun ys hy => ?_
      rw [List.append_assoc]
      exact h _ (.keep ho hy)
    | none => exact lc_rule S xs acc (fun z hz => hs z (List.mem_cons_of_mem _ hz)) fun ys hy => h _ (.drop ho hy)
theorem made_map {f : PyData → PyData} : ∀ {xs ys : List PyData}, Made (fun x o => o = some (f x)) xs ys → ys = xs.map f
  | _, _, .nil => rfl
  | _, _, .keep h r => by
    cases h
    rw [made_map r]
    rfl
  | _, _, .drop h r => by cases h
theorem made_filter {p : PyData → Bool} {f : PyData → PyData} : ∀ {xs ys : List PyData}, Made (fun x o => o = if p x = true then some (f x) else none) xs ys → ys = (xs.filter p).map f
  | _, _, .nil => rfl
  | _, _, .keep (x := x) h r => by
    by_cases c : p x = true
    · rw [if_pos c] at h
      cases h
      rw [made_filter r, List.filter_cons_of_pos c]
      rfl
    · rw [if_neg c] at h
      cases h
  | _, _, .drop (x := x) h r => by
    by_cases c : p x = true
    · rw [if_pos c] at h
      cases h
    · rw [made_filter r, List.filter_cons_of_neg c]
/-- [f(x) for x in xs] -/
theorem lc_map {tg : Tg} {te : W} {ρ : Env3} {Q : List PyData → Prop} (f : PyData → PyData) (xs : List PyData) (h : ∀ x ∈ xs, ∀ k : PyData → Prop, k (f x) → tgW tg x ρ fun ρ' => te ρ' (fun r => r.st k) noX) (q : Q (xs.map f)) : lcL tg wYes te ρ Q xs [] :=
  lc_rule (fun x o => o = some (f x)) xs [] (fun x hx k hk => h x hx (fun y => k (some y)) (hk _ rfl)) fun ys hy => by
    rw [made_map hy]
    exact q
/-- all of it, whatever was drawn: each item good -/
theorem lc_all {tg : Tg} {te : W} {ρ : Env3} {Q : List PyData → Prop} (S : PyData → PyData → Prop) (xs : List PyData) (h : ∀ x ∈ xs, ∀ k : PyData → Prop, (∀ y, S x y → k y) → tgW tg x ρ fun ρ' => te ρ' (fun r => r.st k) noX) (q : ∀ ys, Made (fun x o => ∃ y, o = some y ∧ S x y) xs ys → Q ys) : lcL tg wYes te ρ Q xs [] :=
  lc_rule (fun x o => ∃ y, o = some y ∧ S x y) xs [] (fun x hx k hk => h x hx (fun y => k (some y)) fun y hy => hk _ ⟨y, rfl, hy⟩) q
theorem made_len {S : PyData → PyData → Prop} : ∀ {xs ys : List PyData}, Made (fun x o => ∃ y, o = some y ∧ S x y) xs ys → ys.length = xs.length
  | _, _, .nil => rfl
  | _, _, .keep _ r => by rw [List.length_cons, List.length_cons, made_len r]
  | _, _, .drop h _ => by obtain ⟨y, h, _⟩ := h; cases h
theorem made_mem {S : PyData → PyData → Prop} : ∀ {xs ys : List PyData}, Made (fun x o => ∃ y, o = some y ∧ S x y) xs ys → ∀ y ∈ ys, ∃ x ∈ xs, S x y
  | _, _, .nil => fun y hy => by cases hy
  | _, _, .keep ⟨y, h, s⟩ r => fun z hz => by
    cases h
    rcases List.mem_cons.mp hz with rfl | hz
    · exact ⟨_, List.mem_cons_self, s⟩
    · obtain ⟨x, hx, q⟩ := made_mem r z hz
      exact ⟨x, List.mem_cons_of_mem _ hx, q⟩
  | _, _, .drop h _ => by obtain ⟨y, h, _⟩ := h; cases h
/-- a loop: what stands ahead of the rest xs -/
theorem for_rule {tg : Tg} {body : WS} {D : End3} {X : Exc → Prop} (I : List PyData → Env3 → Prop) : ∀ (xs : List PyData) (ρ : Env3), I xs ρ → (∀ ρ, I [] ρ → D.nx ρ) →
    (∀ x xs ρ, I (x :: xs) ρ → ∀ N : Env3 → Prop, (∀ ρ', I xs ρ' → N ρ') → tgW tg x ρ fun ρ1 => body ⟨N, D.rt, D.nx, N⟩ ρ1 X) → forL tg body D X xs ρ
  | [], ρ, h, e, _ => e ρ h
  | x :: xs, ρ, h, e, s => by
    unfold forL
    exact s x xs ρ h _ fun ρ' h' => for_rule I xs ρ' h' e s
theorem all_map {f : PyData → Bool} {xs : List PyData} : ∃ bs : List Bool, xs.map (fun x => PyData.bool (f x)) = bs.map PyData.bool ∧ bs.all id = xs.all f := ⟨xs.map f, by rw [List.map_map]; rfl, by rw [List.all_map]; rfl⟩
/-! ### places, parts, equality of plain things -/
theorem at0 {α : Type} (x : α) (xs : List α) : atI (x :: xs) 0 = some x := by
  unfold atI ixN
  rw [if_pos (by omega), if_pos (by simp)]
  rfl
theorem at1 {α : Type} (x y : α) (xs : List α) : atI (x :: y :: xs) 1 = some y := by
  unfold atI ixN
  rw [if_pos (by omega), if_pos (by simp; omega)]
  rfl
theorem at2 {α : Type} (x y z : α) (xs : List α) : atI (x :: y :: z :: xs) 2 = some z := by
  unfold atI ixN
  rw [if_pos (by omega), if_pos (by simp; omega)]
  rfl
theorem at3 {α : Type} (x y z u : α) (xs : List α) : atI (x :: y :: z :: u :: xs) 3 = some u := by
  unfold atI ixN
  rw [if_pos (by omega), if_pos (by simp; omega)]
  rfl
theorem at4 {α : Type} (x y z u v : α) (xs : List α) : atI (x :: y :: z :: u :: v :: xs) 4 = some v := by
  unfold atI ixN
  rw [if_pos (by omega), if_pos (by simp; omega)]
  rfl
theorem at_nat {α : Type} {xs : List α} {j : Nat} (h : j < xs.length) : atI xs (j : Int) = some xs[j] := by
  unfold atI ixN
  rw [if_pos (by omega), if_pos (by omega)]
  show xs[((j : Int)).toNat]? = _
  rw [Int.toNat_natCast, List.getElem?_eq_getElem h]
theorem ixN_nat {n j : Nat} (h : j < n) : ixN n (j : Int) = some j := by
  unfold ixN
  rw [if_pos (by omega), if_pos (by omega)]
  rfl
theorem at_last {α : Type} (xs : List α) (x : α) : atI (xs ++ [x]) (-1) = some x := by
  unfold atI ixN
  rw [if_neg (by omega), if_pos (by simp; omega)]
  show (xs ++ [x])[(-1 + (((xs ++ [x]).length : Nat) : Int)).toNat]? = some x
  have e : (-1 + (((xs ++ [x]).length : Nat) : Int)).toNat = xs.length := by
    rw [List.length_append, List.length_singleton]
    omega
  rw [e, List.getElem?_append_right (Nat.le_refl _), Nat.sub_self]
  rfl
theorem cut1 {α : Type} (x : α) (xs : List α) : cut (x :: xs) (some 1) none = xs := by
  unfold T3.cut
  have e1 : HT.sIx (x :: xs).length 0 (some 1) = 1 := by
    show (if (1 : Int) < 0 then ((1 : Int) + ((xs.length + 1 : Nat) : Int)).toNat else min (1 : Int).toNat (xs.length + 1)) = 1
    rw [if_neg (by omega)]
    show min 1 (xs.length + 1) = 1
    omega
  have e2 : HT.sIx (x :: xs).length (x :: xs).length none = (x :: xs).length := rfl
  rw [e1, e2]
  show xs.take (xs.length + 1 - 1) = xs
  rw [Nat.add_sub_cancel, List.take_length]
theorem cut_to {α : Type} (xs : List α) (k : Nat) : cut xs none (some (k : Int)) = xs.take k := by
  unfold T3.cut
  have e1 : HT.sIx xs.length 0 none = 0 := rfl
  have e2 : HT.sIx xs.length xs.length (some (k : Int)) = min k xs.length := by
    show (if (k : Int) < 0 then ((k : Int) + ((xs.length : Nat) : Int)).toNat else min (k : Int).toNat xs.length) = _
    rw [if_neg (by omega), Int.toNat_natCast]
  rw [e1, e2, List.drop_zero, Nat.sub_zero]
  by_cases h : k ≤ xs.length
  · rw [Nat.min_eq_left h]
  · rw [Nat.min_eq_right (by omega), List.take_length, List.take_of_length_le (by omega)]
theorem cut_from {α : Type} (xs : List α) (k : Nat) : cut xs (some (k : Int)) none = xs.drop k := by
  unfold T3.cut
  have e2 : HT.sIx xs.length xs.length none = xs.length := rfl
  have e1 : HT.sIx xs.length 0 (some (k : Int)) = min k xs.length := by
    show (if (k : Int) < 0 then ((k : Int) + ((xs.length : Nat) : Int)).toNat else min (k : Int).toNat xs.length) = _
    rw [if_neg (by omega), Int.toNat_natCast]
  rw [e1, e2]
  by_cases h : k ≤ xs.length
  · rw [Nat.min_eq_left h]
    exact List.take_of_length_le (by rw [List.length_drop]; omega)
  · rw [Nat.min_eq_right (by omega), Nat.sub_self, List.take_zero, List.drop_of_length_le (by omega)]
theorem eqv_ii (a b : Int) : PyData.eqv (.int a) (.int b) = decide (a = b) := by
  rw [PyData.eqv]
  rfl
theorem eqv_ss (a b : Str) : PyData.eqv (.str a) (.str b) = decide (a = b) := by
  rw [PyData.eqv]
  by_cases h : a = b
  · subst h
    simp
  · simp [h]
theorem sh_i (a : Int) : SeqAt.shaped (.int a) = true := by rfl
theorem sh_b (a : Bool) : SeqAt.shaped (.bool a) = true := by rfl
theorem sh_n : SeqAt.shaped .none = true := by rfl
/-- a tuple or list of plain ints, texts .. -/
def flatD : PyData → Bool
  | .none | .bool _ | .int _ => true
  | .str x => SeqAt.shaped (.str x)
  | _ => false
theorem flat_lay : ∀ {xs : List PyData}, xs.all flatD = true → PyData.canLayAll0 xs = true
  | [], _ => rfl
  | x :: xs, h => by
    rw [List.all_cons, Bool.and_eq_true] at h
    have h2 := flat_lay h.2
    have h1 : x.canLay0 = true := by
      cases x with
      | str z => exact SeqAt.canLay_of_shaped h.1
      | none => rfl
      | bool b => rfl
      | int i => rfl
      | _ => exact absurd h.1 (by simp [flatD])
    rw [PyData.canLayAll0, h1, h2]
    rfl
/-- may be laid, no deeper than k -/
def Lay (k : Nat) (x : PyData) : Prop := x.canLay0 = true ∧ x.depth ≤ k
theorem Lay.sh {k : Nat} {x : PyData} (h : Lay k x) (hk : k ≤ 64 := by decide) : SeqAt.shaped x = true := by
  unfold SeqAt.shaped
  rw [h.1, decide_eq_true (Nat.le_trans h.2 hk)]
  rfl
theorem Lay.mono {k j : Nat} {x : PyData} (h : Lay k x) (hk : k ≤ j) : Lay j x := ⟨h.1, Nat.le_trans h.2 hk⟩
theorem lay_i (i : Int) : Lay 0 (.int i) := ⟨rfl, Nat.le_refl _⟩
theorem lay_b (i : Bool) : Lay 0 (.bool i) := ⟨rfl, Nat.le_refl _⟩
theorem lay_n : Lay 0 .none := ⟨rfl, Nat.le_refl _⟩
theorem lay_s {x : Str} (h : SeqAt.shaped (.str x) = true) : Lay 0 (.str x) := ⟨SeqAt.canLay_of_shaped h, Nat.le_refl _⟩
theorem lay_all {k : Nat} : ∀ {xs : List PyData}, (∀ x ∈ xs, Lay k x) → PyData.canLayAll0 xs = true ∧ PyData.depthAll xs ≤ k
  | [], _ => ⟨rfl, Nat.zero_le _⟩
  | x :: xs, h => by
    obtain ⟨h1, h2⟩ := lay_all (xs := xs) fun y hy => h y (List.mem_cons_of_mem _ hy)
    obtain ⟨g1, g2⟩ := h x List.mem_cons_self
    refine ⟨by rw [PyData.canLayAll0, g1, h1]; rfl, ?_⟩
    rw [PyData.depthAll]
    exact Nat.max_le.mpr ⟨g2, h2⟩
theorem lay_t {k : Nat} {xs : List PyData} (h : ∀ x ∈ xs, Lay k x) : Lay (k + 1) (.tuple xs) := by
  obtain ⟨h1, h2⟩ := lay_all h
  refine ⟨h1, ?_⟩
  rw [PyData.depth]
  omega
theorem lay_l {k : Nat} {xs : List PyData} (h : ∀ x ∈ xs, Lay k x) : Lay (k + 1) (.list xs) := by
  obtain ⟨h1, h2⟩ := lay_all h
  refine ⟨h1, ?_⟩
  rw [PyData.depth]
  omega
theorem lay_ints (ns : List Int) : Lay 1 (.tuple (ns.map .int)) := lay_t (k := 0) fun x hx => by
  obtain ⟨i, _, rfl⟩ := List.mem_map.mp hx
  exact lay_i i
theorem eqv_same {x : PyData} {k : Nat} (h : Lay k x) : PyData.eqv x x = true := SeqAt.eqv_refl x h.1
/-- texts compared, whatever they are -/
def eqS : Op2 := fun x y k => match x, y with
  | .str a, .str b => k (.d (.bool (decide (a = b))))
  | _, _ => False
theorem op_eqS {X : Cx} {T : List (Addr × Str)} : OpR X (compareOp .Eq) (rD (pm X T) eqS) := OpRimp op_eq fun x y H Q h => by
  obtain ⟨M, d, e, Q3, hm, ht, hd, he, q, k⟩ := h
  unfold eqS at q
  split at q
  · rename_i a b
    have e1 := hd.str
    have e2 := he.str
    subst e1 e2
    refine ⟨rfl, k _ _ _ q (ExtN.refl H) ht ?_⟩
    by_cases c : a = b
    · subst c
      rw [decide_eq_true rfl, decide_eq_true rfl]
      exact .bl true
    · rw [decide_eq_false c, decide_eq_false (fun z => c (V.str.inj z))]
      exact .bl false
  · exact q.elim
/-- may be shown, shortly: the leaves are small, there are not many -/
structure Shw (x : PyData) : Prop where
  sh : SeqAt.shaped x = true
  show_ : x.showable = true
  fits : x.shown.length ≤ sizeLine
theorem bulk_all : ∀ (xs : List PyData) (n : Nat), (∀ x ∈ xs, PyData.bulk x ≤ n) → PyData.bulkAll xs ≤ (n + 1) * xs.length
  | [], _, _ => by simp [PyData.bulkAll]
  | x :: xs, n, h => by
    have h1 := h x List.mem_cons_self
    have h2 := bulk_all xs n fun y hy => h y (List.mem_cons_of_mem _ hy)
    rw [PyData.bulkAll, List.length_cons, Nat.mul_add]
    omega
end T3
set_option linter.all false
set_option maxRecDepth 100000
set_option maxHeartbeats 2000000
set_option Elab.async false
/-! T19: sum of a tuple. -/
namespace T3
open L2 LamX PySem PyProof.Rows PySem.Spec
section
variable {prog : Program} {w : World} {A : Around} {E : Value → Shared → Prop} {s : Shared} {l : Addr} {its : List Value} {ns : List Int} {Q : Value → Shared → Prop}
theorem sum_tup (hh : A.handled = none) (hl : s.heap.IsTuple l its.toArray) (hi : IntsAre its ns)
    (h : ∀ h' tk t', (∀ b o, s.heap.get? b = some o → h'.get? b = some o) → Q (.int ns.sum t') { s with heap := h', toks := tk }) : wpAny (model prog w) A (call (.builtin "sum") [.ref l]) Q E s := by
  obtain ⟨xs, e⟩ := hi.allInts.items
  have hn : numsOf (intItems xs).toList = ns := by rw [← e]; exact hi.numsOf
  rw [nums_intItems] at hn
  rw [e] at hl
  have hlt : l < s.heap.objs.size := by obtain ⟨_, e, _⟩ := hl; exact Heap.lt_size e
  refine call_sum_walkG (wpAny_pyIter_tuple hl ?_)
  refine ⟨_, _, _, _, _, _, numAt xs, rfl, Walks.tuple (A := A.in1) hh s.heap.objs.size l (Nat.ne_of_lt hlt) (intItems xs), ⟨⟨_, Heap.get?_push_size _ rfl, rfl, rfl⟩, hl.push _⟩, fun b hb => ?_, (fun _ _ => intItems_at), fun h' tk t' hk => ?_⟩
  · show b < (s.heap.push _).objs.size
    rw [Heap.size_push]
    rcases List.mem_cons.mp hb with rfl | hb
    · exact Nat.lt_succ_self _
    · have e := List.mem_singleton.mp hb
      subst e
      exact Nat.lt_succ_of_lt hlt
  · have z := h h' tk t' fun b o q => hk b o (fun m => by
      have e := List.mem_singleton.mp m
      subst e
      exact absurd (Heap.lt_size q) (Nat.lt_irrefl _)) (Heap.get?_push_of_some _ q)
    have e2 : preSum (numAt xs) (intItems xs).size = ns.sum := by
      rw [preSum_eq, List.take_of_length_le (by simp [intItems]), hn]
    rw [e2]
    exact z
end
section
variable {X : Cx} {T : List (Addr × Str)}
def rSumT (K : PySem.W.Frag) : List V → Hp → VK → Prop := fun vs H Q => ∃ (a : Addr) (ns : List Int), vs = [V.ref a] ∧ SqT K H a (ns.map V.int) ∧ Q (.int ns.sum) H
theorem cr_sumT (hc : X.calm = true) : CallR X (.builtin "sum") (rSumT X.K) := by
  intro pins s σ H vs us Q I r h
  obtain ⟨a, ns, rfl, hs, q⟩ := h
  obtain ⟨its, rv, hl, _⟩ := I.tuple hs
  rw [Vals.ref1 r]
  exact sum_tup (I.ok.hd hc) hl (ints_of_vals rv) fun h' tk t' hk => ⟨.int _, H, I.kept hk, ⟨_, rfl⟩, q⟩
def sumDD : OpL := fun xs k => match xs with
  | [.list a] => ∃ ns : List Int, a = ns.map PyData.int ∧ k (.d (.int ns.sum))
  | [.tuple a] => ∃ ns : List Int, a = ns.map PyData.int ∧ k (.d (.int ns.sum))
  | _ => False
theorem cr_sumDD (hc : X.calm = true) : CallR X (.builtin "sum") (rDs (pm X T) sumDD) := CallRimp ((cr_sum hc).or (cr_sumT hc)) fun vs H Q h => by
  obtain ⟨M, ds, Q3, hm, ht, hp, q, k⟩ := h
  unfold sumDD at q
  split at q
  · obtain ⟨v, rfl, h⟩ := one_of hp
    obtain ⟨a, ws, rfl, l, r⟩ := h.lst
    obtain ⟨ns, rfl, q⟩ := q
    cases r.ints
    exact .inl ⟨a, ns, rfl, SqL.of l, k _ _ _ q (ExtN.refl H) ht (.int _)⟩
  · obtain ⟨v, rfl, h⟩ := one_of hp
    obtain ⟨a, ws, rfl, l, r⟩ := h.tup
    obtain ⟨ns, rfl, q⟩ := q
    cases r.ints
    exact .inr ⟨a, ns, rfl, l.sq, k _ _ _ q (ExtN.refl H) ht (.int _)⟩
  · exact q.elim
end
end T3
set_option linter.all false
set_option maxRecDepth 100000
set_option maxHeartbeats 2000000
set_option Elab.async false
/-! T20: two names at once while the hand's list is in sight. -/
namespace T3
open L2 LamX PySem PyProof.Rows PySem.Spec
section
variable {X : Cx} {T : List (Addr × Str)} {e a b : Expr} {pos p : Pos}
def wPar2 (i j : Nat) (ws : WL) : WS := fun D ρ X => ws ρ (fun xs => match xs with
  | [u, v] => D.nx ((ρ.set i (some (.d u))).set j (some (.d v)))
  | _ => False) X
theorem hs_par {i j : Nat} {x y : Str} {ws : WL} {px py pt : Pos} {kt k2 pt2} (hi0 : i ≠ 0) (hj0 : j ≠ 0) (hc : X.calm = true) (hN : X.N.Nodup) (hi : X.N[i]? = some x) (hj : X.N[j]? = some y) (hij : i ≠ j)
    (hx : X.env.scope.names.lookup x = some .local) (hy : X.env.scope.names.lookup y = some .local) (ha : PA X [a, b] (liftL DM (pm X T) E0 2 ws))
    (hw : swappedStores [.Tuple [.Name x px, .Name y py] kt pt] (.Tuple [a, b] k2 pt2) X.env = pure (some [x, y]))
    (hs : swapsWithSole [.Tuple [.Name x px, .Name y py] kt pt] (.Tuple [a, b] k2 pt2) pos.line X.env = pure false := by rfl) :
    PS X (.Assign [.Tuple [.Name x px, .Name y py] kt pt] (.Tuple [a, b] k2 pt2) pos) (liftH (pm X T) (wPar2 i j ws)) := by
  refine PSimp (ps_par hc hN hi hj hij hx hy ha hw hs) fun D σ H ⟨a, c, H0, M, ρ, D3, re, h0, q, k⟩ => ?_
  refine ⟨H0, _, M, ρ, noX, _, re, noXO, q, fun xs vs H1 qx e1 t1 hl hp => ?_⟩
  cases hp with
  | nil => cases hl
  | cons p1 hp =>
  cases hp with
  | nil => cases hl
  | cons p2 hp =>
  cases hp with
  | cons p3 hp => exact qx.elim
  | nil =>
    rename_i v1 u1 v2 u2
    have r1 : RA (pm X T).K M H1 v1 (.d u1) := p1
    have r2 : RA (pm X T).K M H1 v2 (.d u2) := p2
    exact ⟨v1, v2, rfl, k.nx _ M H1 _ qx (((re.grow e1 t1).set i r1).set j r2) ⟨by rw [List.getElem?_set_ne hj0, List.getElem?_set_ne hi0]; exact h0.1, (h0.ext e1).2⟩⟩
end
end T3
set_option linter.all false
set_option maxRecDepth 100000
set_option maxHeartbeats 2000000
set_option Elab.async false
/-! T21: word = told / try: call() / except C: word = z .. / return word. -/
namespace T3
open L2 LamX PySem PyProof.Rows PySem.Spec
def tLen (n : Nat) (t : TS) : TS := fun D σ H => σ.length = n → t D σ H
theorem pss_len {X : Cx} {ss : List Stmt} {t : TS} {n : Nat} (hn : X.N.length = n) (h : PSs X ss t) : PSs X ss (tLen n t) := ⟨fun pins s σ H D I q => h.run pins s σ H D I (q (I.len.trans hn))⟩
/-- the suites: each stores a word -/
def wordsL (n w : Nat) (l : List (Value × Str)) : List (Value × (Addr → Value → Option Addr → TS)) := l.map fun p => (p.1, fun _ _ _ => tLen n (tAsg (tC (.str p.2)) (gName w)))
/-- the word of the first class that it is of -/
def FirstM (K : PySem.W.Frag) (cls : Value) : List (Value × Str) → Str → Prop
  | [], _ => False
  | p :: r, z => (PySem.W.exmOne K cls p.1 = some true ∧ z = p.2) ∨ (PySem.W.exmOne K cls p.1 = some false ∧ FirstM K cls r z)
theorem many_first {K : PySem.W.Frag} {n w : Nat} {D : Ends} {cls : Value} {d : Option Addr} {σ : St} {H : Hp} {z : Str} : ∀ {l : List (Value × Str)}, FirstM K cls l z → (σ.length = n → D.nx (σ.set w (some (.str z))) H) → wMany K (fun _ _ _ _ => False) D (wordsL n w l) cls d σ H
  | [], h, _ => h.elim
  | p :: r, h, k => by
    show ∃ b, PySem.W.exmOne K cls p.1 = some b ∧ _ ∧ _
    rcases h with ⟨h1, h2⟩ | ⟨h1, h2⟩
    · refine ⟨true, h1, fun _ a _ hl => ?_, fun e => (by cases e)⟩
      subst h2
      exact k hl
    · exact ⟨false, h1, fun e => (by cases e), fun _ => many_first h2 k⟩
theorem word_let {X : Cx} {T : List (Addr × Str)} {Ng : List Str} {x a wn q told : Str} {sg : Scope} {g : Addr} {cdg : Value} {w j : Nat} {h₀ : ExceptHandler} {hds : List ExceptHandler} {l : List (Value × Str)} {p1 p2 p3 p4 p5 p6 p7 p8 p9 : Pos} {wd : Exc → Option Str}
    (nd : Ng.Nodup) (hw : Ng[w]? = some wn) (hw0 : w ≠ 0) (hloc : Loc sg wn) (hdw : (wn == ("__debug__" : Str)) = false) (hcw : (wn == ("__classdict__" : Str)) = false) (h0 : ∀ f : Addr, (L2.start Ng [V.ref f])[0]? = some (some (V.ref f)))
    (hh : ∀ (s : Shared) (H : Hp), HdsOk (wCx X Ng x sg g cdg s H) (h₀ :: hds) (wordsL Ng.length w l)) (hf : ∀ (s : Shared) (H : Hp), (wCx X Ng x sg g cdg s H).fn wn = true ∨ sg.names.lookup wn = some .local)
    (hfirst : ∀ y z C, wd y = some z → X.mg y.name = some (.ref C) → FirstM X.K (.ref C) l z) :
    GivesTo X Ng x sg g cdg [.Assign [.Name wn p1] (.Constant (.str told) j p2) p3, .Try [.Expr (.Call (.Name a p4) [] [] p5) p6] (h₀ :: hds) [] [] p7, .Return (some (.Name wn p8)) p9] a q (TWord (pm X T) told wd) := by
  intro f c' s H Q tl act hc ⟨Ew, hEw, h⟩
  have hv : Vis sg wn := hloc.elim .inl fun z => .inr (.inl z)
  have hwl : w < Ng.length := (List.getElem?_eq_some_iff.mp hw).1
  refine ⟨_, pss_cons (ps_set (X := wCx X Ng x sg g cdg s H) (i := w) nd hw hloc pe_str (by rfl) (hf s H)) (pss_cons (ps_try_many (X := wCx X Ng x sg g cdg s H)
      (tb := fun W D σ H => ∃ Ech : XK, (∀ cls d σ' H', Ech cls d H' → W cls d σ' H') ∧ σ[0]? = some (some (.ref f)) ∧ H c' = some (CodeO c' q) ∧ tl Ech H (fun _ H' => D.nx σ H'))
      rfl rfl L2.takes0 (fun W pn xe tk _ => ?_) (hh s H)) (pss_one (ps_ret (pe_var (i := w) hw hv hdw hcw)))), ?_⟩
  · refine ⟨fun pins s' σ H' D I h' => ?_⟩
    obtain ⟨Ech, hW, h1, h2, h3⟩ := h'
    exact (pss_one (ps_expr (act W pn xe Ech p4 p5 tk hW))).run pins s' σ H' D I ⟨h1, h2, h3⟩
  · have e0 : ((L2.start Ng [V.ref f]).set w (some (V.str told)))[0]? = some (some (V.ref f)) := by
      rw [List.getElem?_set_ne hw0]
      exact h0 f
    refine ⟨Ew, fun cls d σ' H' he => ?_, e0, hc, ?_⟩
    · obtain ⟨y, z, hz, rx, t', mono⟩ := hEw cls d H' he
      obtain ⟨C, g1, g2, _⟩ := rx
      subst g2
      refine many_first (hfirst y z C hz g1) fun hl => ?_
      exact ⟨.str z, by rw [List.getElem?_set_self (by rw [hl]; exact hwl)], mono H' (ExtN.refl H') t'⟩
    · have e : (fun (_ : V) (H' : Hp) => Q (.str told) H') = fun (_ : V) (H' : Hp) => ∃ v, ((L2.start Ng [V.ref f]).set w (some (V.str told)))[w]? = some (some v) ∧ Q v H' := by
        funext _ H'
        have hl : w < (L2.start Ng [V.ref f]).length := by
          unfold L2.start
          rw [List.length_append, List.length_map, List.length_replicate]
          show w < 1 + (Ng.length - 1)
          omega
        rw [List.getElem?_set_self hl]
        exact propext ⟨fun h => ⟨_, rfl, h⟩, fun ⟨v, e, h⟩ => by
          cases e
          exact h⟩
      rw [e] at h
      exact h
/-- the first class's word, by names -/
def firstB (isa : Str → Str → Bool) : List (Str × Str) → Str → Option Str
  | [], _ => none
  | q :: r, n => if isa n q.1 = true then some q.2 else firstB isa r n
inductive Told (K : PySem.W.Frag) (cls : Value) (isa : Str → Str → Bool) (n : Str) : List (Value × Str) → List (Str × Str) → Prop
  | nil : Told K cls isa n [] []
  | cons {p : Value × Str} {q : Str × Str} {l : List (Value × Str)} {m : List (Str × Str)} : p.2 = q.2 → PySem.W.exmOne K cls p.1 = some (isa n q.1) → Told K cls isa n l m → Told K cls isa n (p :: l) (q :: m)
theorem first_of {K : PySem.W.Frag} {cls : Value} {isa : Str → Str → Bool} {n z : Str} : ∀ {l : List (Value × Str)} {m : List (Str × Str)}, Told K cls isa n l m → firstB isa m n = some z → FirstM K cls l z
  | _, _, .nil, h => by cases h
  | _, _, .cons (q := q) e h1 r, h => by
    unfold firstB at h
    by_cases c : isa n q.1 = true
    · rw [if_pos c] at h
      cases h
      rw [c] at h1
      exact .inl ⟨h1, e.symm⟩
    · rw [if_neg c] at h
      have c2 : isa n q.1 = false := by simpa using c
      rw [c2] at h1
      exact .inr ⟨h1, first_of r h⟩
end T3
set_option linter.all false
set_option maxRecDepth 100000
set_option maxHeartbeats 2000000
set_option Elab.async false
/-! T22: is, is not, with None, True, False. -/
namespace T3
open L2 LamX PySem PyProof.Rows PySem.Spec
section
variable {M : Model} {A : Around} {E : Value → Shared → Prop} {s : Shared} {Q : Value → Shared → Prop}
theorem is_bool_gen {v : Value} {b : Bool} (nb : ∀ id, v ≠ .builtin id) (h : Q (.bool (v == .bool b)) s) : wpAny M A (compareOp .Is v (.bool b)) Q E s := by
  cases v <;> first | exact wpAny_pure h | exact absurd rfl (nb _)
theorem isnot_bool_gen {v : Value} {b : Bool} (nb : ∀ id, v ≠ .builtin id) (h : Q (.bool (!(v == .bool b))) s) : wpAny M A (compareOp .IsNot v (.bool b)) Q E s := by
  cases v <;> first | exact wpAny_pure h | exact absurd rfl (nb _)
end
section
variable {X : Cx} {T : List (Addr × Str)}
theorem op_isB : OpR X (compareOp .Is) (fun x y H Q => ∃ b, y = .bl b ∧ Q (.bl (decide (x = .bl b))) H) := by
  intro pins s σ H x y v u Q I rx ry h
  obtain ⟨b, rfl, q⟩ := h
  cases ry
  refine is_bool_gen (fun id e => ?_) (fin_bl I q ?_)
  · cases x <;> first
    | (have z : _ = _ := rx; rw [e] at z; cases z; done)
    | (obtain ⟨t, z⟩ := rx; rw [e] at z; cases z; done)
  cases x with
  | bl c =>
    cases rx
    cases b <;> cases c <;> rfl
  | _ =>
    first
    | (cases rx; rfl)
    | (obtain ⟨t, rfl⟩ := rx; rfl)
theorem op_isnotB : OpR X (compareOp .IsNot) (fun x y H Q => ∃ b, y = .bl b ∧ Q (.bl (!decide (x = .bl b))) H) := by
  intro pins s σ H x y v u Q I rx ry h
  obtain ⟨b, rfl, q⟩ := h
  cases ry
  refine isnot_bool_gen (fun id e => ?_) (fin_bl I q ?_)
  · cases x <;> first
    | (have z : _ = _ := rx; rw [e] at z; cases z; done)
    | (obtain ⟨t, z⟩ := rx; rw [e] at z; cases z; done)
  cases x with
  | bl c =>
    cases rx
    cases b <;> cases c <;> rfl
  | _ =>
    first
    | (cases rx; rfl)
    | (obtain ⟨t, rfl⟩ := rx; rfl)
/-- is the same thing: None, a bool -/
def isTree (x y : PyData) : Bool := match x, y with
  | .none, .none => true
  | .bool a, .bool b => a == b
  | _, _ => false
def isDD : Op2 := fun x y k => match y with
  | .none => k (.d (.bool (isTree x .none)))
  | .bool b => k (.d (.bool (isTree x (.bool b))))
  | _ => False
def isnotDD : Op2 := fun x y k => match y with
  | .none => k (.d (.bool (!isTree x .none)))
  | .bool b => k (.d (.bool (!isTree x (.bool b))))
  | _ => False
theorem wr_bl {K : PySem.W.Frag} {M : Ad} {H : Hp} {x : V} {d : PyData} {b : Bool} (h : WR K M H x d) : decide (x = .bl b) = isTree d (.bool b) := by
  cases d with
  | none => cases h.non; rfl
  | bool c =>
    cases h.bool
    cases b <;> cases c <;> rfl
  | int i => cases h.int; rfl
  | str i => cases h.str; rfl
  | list i => obtain ⟨a, vs, e1, _⟩ := h.lst; cases e1; rfl
  | tuple i => obtain ⟨a, vs, e1, _⟩ := h.tup; cases e1; rfl
  | dict i => obtain ⟨_, a, _, _, e1, _⟩ := h.dct; cases e1; rfl
theorem wr_nn {K : PySem.W.Frag} {M : Ad} {H : Hp} {x : V} {d : PyData} (h : WR K M H x d) : decide (x = .non) = isTree d .none := by
  cases d with
  | none => cases h.non; rfl
  | bool c => cases h.bool; rfl
  | int i => cases h.int; rfl
  | str i => cases h.str; rfl
  | list i => obtain ⟨a, vs, e1, _⟩ := h.lst; cases e1; rfl
  | tuple i => obtain ⟨a, vs, e1, _⟩ := h.tup; cases e1; rfl
  | dict i => obtain ⟨_, a, _, _, e1, _⟩ := h.dct; cases e1; rfl
theorem op_isDD : OpR X (compareOp .Is) (rD (pm X T) isDD) := OpRimp (op_isN.or op_isB) fun x y H Q h => by
  obtain ⟨M, d, e, Q3, hm, ht, hd, he, q, k⟩ := h
  unfold isDD at q
  split at q
  · refine .inl ⟨he.non, ?_⟩
    rw [wr_nn hd]
    exact k _ _ _ q (ExtN.refl H) ht (.bl _)
  · refine .inr ⟨_, he.bool, ?_⟩
    rw [wr_bl hd]
    exact k _ _ _ q (ExtN.refl H) ht (.bl _)
  · exact q.elim
theorem op_isnotDD : OpR X (compareOp .IsNot) (rD (pm X T) isnotDD) := OpRimp (op_notN.or op_isnotB) fun x y H Q h => by
  obtain ⟨M, d, e, Q3, hm, ht, hd, he, q, k⟩ := h
  unfold isnotDD at q
  split at q
  · refine .inl ⟨he.non, ?_⟩
    rw [wr_nn hd]
    exact k _ _ _ q (ExtN.refl H) ht (.bl _)
  · refine .inr ⟨_, he.bool, ?_⟩
    rw [wr_bl hd]
    exact k _ _ _ q (ExtN.refl H) ht (.bl _)
  · exact q.elim
end
end T3
set_option linter.all false
set_option maxRecDepth 100000
set_option maxHeartbeats 2000000
set_option Elab.async false
/-! T23: enumerate over a tuple. -/
namespace T3
open L2 LamX PySem PyProof.Rows PySem.Spec
theorem meets_enum_tup (l : Addr) (items : Array Value) (n : Nat) (dd : Option Addr) (sl : Array (Option Value)) :
    Meets (Builtin.«enumerate.__new__» ⟨[.type "enumerate", .ref l], []⟩) (fun _ R s => s.heap.get? l = some { cls := .type "tuple", dict := dd, data := .seq items n, slots := sl } ∧
      R (.ok (.ret (.ref (s.heap.push { cls := .type "tuple_iterator", data := .fields #[.ref l, .int 0 0] }).objs.size)))
        { s with heap := (s.heap.push { cls := .type "tuple_iterator", data := .fields #[.ref l, .int 0 0] }).push { cls := .type "enumerate", data := .fields #[.none, .bool false, .ref s.heap.objs.size, rawInt 0, .none, .none] } }) :=
  .of_wp fun prog w A R s h => by
    obtain ⟨hp, g, d, tk, os⟩ := s
    obtain ⟨hl, h⟩ := h
    have hT : (Heap.IsTuple hp l items) := ⟨_, hl, rfl, n, rfl⟩
    have subE := sub_enumerate
    wp_walk using wpAny_loadPart' hl, wpAny_pyIter_tuple hT
    refine wpAny_stack_any fun st => wpAny_pure ?_
    split
    · rename_i c _ _ _ _ _
      cases (c == Value.type "enumerate") <;> (wp_walk using wpAny_loadPart' hl, wpAny_pyIter_tuple hT; exact ⟨_, rfl, h⟩)
    · wp_walk using wpAny_loadPart' hl, wpAny_pyIter_tuple hT
      exact ⟨_, rfl, h⟩
section
variable {prog : Program} {w : World} {A : Around} {E : Value → Shared → Prop} {s : Shared}
theorem call_enum_tup {l : Addr} {items : Array Value} {Q : Value → Shared → Prop} (hT : s.heap.IsTuple l items)
    (h : ∀ h', IsEnum h' (s.heap.objs.size + 1) s.heap.objs.size 0 .none → h'.IsTupleIter s.heap.objs.size l 0 → h'.objs.size = s.heap.objs.size + 2 →
      (∀ b o, s.heap.get? b = some o → h'.get? b = some o) → Q (.ref (s.heap.objs.size + 1)) { s with heap := h' }) : wpAny (model prog w) A (call (.type "enumerate") [.ref l]) Q E s := by
  obtain ⟨⟨c, dct, dt, sl⟩, hl, hc, n, hd⟩ := hT
  simp only at hc hd
  subst hc hd
  refine callType_new F.called_enumerate (by decide) (F.typeCall_enumerate_1 _) (F.newCall_enumerate_1 _) (fun obj => F.args_object_init_2 obj _) F.entry_enumerate_new (meets_enum_tup l items n dct sl) ⟨hl, ?_⟩
  have ez : (s.heap.push { cls := .type "tuple_iterator", data := .fields #[.ref l, .int 0 0] }).objs.size = s.heap.objs.size + 1 := Heap.size_push ..
  show _ ∧ _
  rw [ez]
  have he : IsEnum ((s.heap.push { cls := .type "tuple_iterator", data := .fields #[.ref l, .int 0 0] }).push { cls := .type "enumerate", data := .fields #[.none, .bool false, .ref s.heap.objs.size, rawInt 0, .none, .none] }) (s.heap.objs.size + 1) s.heap.objs.size 0 .none := by
    have z := Heap.get?_push_size (s.heap.push { cls := .type "tuple_iterator", data := .fields #[.ref l, .int 0 0] }) (o := { cls := .type "enumerate", data := .fields #[.none, .bool false, .ref s.heap.objs.size, rawInt 0, .none, .none] }) rfl
    rw [ez] at z
    exact z
  exact ⟨⟨_, he, rfl⟩, h _ he ⟨_, Heap.get?_push_of_some _ (Heap.get?_push_size _ rfl), rfl, rfl⟩ (by rw [Heap.size_push, ez]) fun b o x => Heap.get?_push_of_some _ (Heap.get?_push_of_some _ x)⟩
end
theorem enum_tup_end {prog : Program} {w : World} {A : Around} {E : Value → Shared → Prop} {s : Shared} {e it l : Addr} {i : Nat} {c : Int} {items : Array Value} {old : Value} {Q : Option Value → Shared → Prop} (hh : A.handled = none)
    (he : IsEnum s.heap e it c old) (hit : s.heap.IsTupleIter it l i) (hl : s.heap.IsTuple l items) (hx : items[i]? = none) (q : ∀ h', Heap.ExtBut it s.heap h' → Q none { s with heap := h' }) : wpAny (model prog w) A (pyNext (.ref e)) Q E s := by
  have ty : s.TypeIs (.ref e) "enumerate" := ⟨_, he, rfl⟩
  unfold pyNext
  refine wpAny_bind (wpAny_attempt (wpAny_callSpecial?_slot (name := Str.ofString "__next__") ty F.slot_enumerate_next (wpAny_call_entry F.slot_enumerate_next ty F.entry_enumerate_next ?_ (F.args_enumerate_next_1 _))))
  show wpAny _ _ (field (.ref e) 2 >>= _) _ _ _
  refine wpAny_bind (wpAny_field he rfl (x := .ref it) rfl ?_)
  refine wpAny_bind (wpAny_nextOf_tuple_end hh hit hl hx fun h' x he' hx' => ?_)
  obtain ⟨o, ho, hc⟩ := hx'
  exact wpAny_bind (wpAny_isInstance (T := "StopIteration") (b := true) ⟨o, ho, hc⟩ isSubtype_stop (wpAny_pure (q _ he')))
/-- the tuple at a, each item in a new pair with its place -/
def IteT (K : PySem.W.Frag) (a : Addr) : It :=
  ⟨fun i H => ∃ (xs : List V) (x : V), SqT K H a xs ∧ xs[i]? = some x, fun i H v H' => ∃ T x, v = .ref T ∧ H T = none ∧ H' = upd H T (.tup [.int (i : Nat), x]) ∧ ∀ xs, SqT K H a xs → xs[i]? = some x, fun i H => ∃ xs : List V, SqT K H a xs ∧ xs.length ≤ i⟩
theorem turn_enumT {P : Program} {w : World} {K : PySem.W.Frag} {elts : List Expr} {kk : Nat} {tpos : Pos} (a e it : Addr) :
    Turn P w K (.Tuple elts kk tpos) (IteT K a) [e, it] e (fun i h => (∃ old, IsEnum h e it ((i : Nat) : Int) old) ∧ h.IsTupleIter it a i ∧ e ≠ it) where
  mem := by simp
  obj := fun i h st b hb => by
    obtain ⟨⟨old, he⟩, ⟨o, ho, hc, hd⟩, _⟩ := st
    rcases (show b = e ∨ b = it by simpa using hb) with z | z
    · rw [z]
      exact ⟨_, he, fun v q => nomatch q⟩
    · rw [z]
      exact ⟨o, ho, fun v q => by rw [hd] at q; cases q⟩
  keep := fun i h h' st k => let ⟨⟨old, he⟩, hi, hne⟩ := st; ⟨⟨old, k e (by simp) _ he⟩, hi.at fun o q => k it (by simp) o q, hne⟩
  item := by
    intro X hP hw hK hc i pins s σ H E I hf st hg
    subst hP hw hK
    obtain ⟨⟨old, he⟩, hit, hne⟩ := st
    obtain ⟨xs, x, hq, hx⟩ := hg
    obtain ⟨its, rv, pl, hz⟩ := I.tuple hq
    have pl' : s.heap.IsTuple a its.toArray := pl
    obtain ⟨u, hu, ru⟩ := rv.get hx
    have hel : e < s.heap.objs.size := Heap.lt_size he
    have hil : it < s.heap.objs.size := by obtain ⟨_, q, _⟩ := hit; exact Heap.lt_size q
    have nae : a ≠ e := fun z => by
      obtain ⟨o, q, cc, _⟩ := pl'
      rw [z, he] at q
      cases q
      simp at cc
    have nai : a ≠ it := fun z => by
      obtain ⟨o, q, cc, _⟩ := pl'
      obtain ⟨o2, q2, cc2, _⟩ := hit
      rw [z, q2] at q
      cases q
      rw [cc2] at cc
      simp at cc
    have hlt : i < its.toArray.size := by
      have := (List.getElem?_eq_some_iff.mp hu).1
      simpa using this
    refine wpAny_pyNext_enum_itemC (Draws.tuple (A := X.A.in1) (I.ok.hd hc) it a nai its.toArray) he ⟨hit, pl'⟩ hlt hne (fun m => ?_) fun x2 h' tk hx2 ho hit' hT hsz hk => ?_
    · rcases (show e = it ∨ e = a by simpa using m) with z | z
      · exact hne z
      · exact nae z.symm
    have ex : x2 = u := by
      have z : its.toArray[i]? = some x2 := hx2
      have z2 : its[i]? = some x2 := by simpa using z
      rw [hu] at z2
      cases z2
      rfl
    subst ex
    refine ⟨_, rfl, wpAny_letOwnedTupleGo_enum (s := { s with heap := h', toks := tk + 1 }) ho fun h'' he' sb => ?_⟩
    have hT2 : h''.get? s.heap.objs.size = some { cls := .type "tuple", data := .seq #[.int i tk, x2] } := (sb.2 _ (Nat.ne_of_gt hel)).trans hT
    have new : ObjOk X.prog X.w (upd H s.heap.objs.size (.tup [.int (i : Nat), x])) h'' s.heap.objs.size (.tup [.int (i : Nat), x]) :=
      ⟨by show 2 ≤ sizeLine; decide, [.int i tk, x2], .cons ⟨_, rfl⟩ (.cons ru .nil), ⟨_, hT2, rfl, _, rfl⟩⟩
    have I1 : Inv X pins σ (upd H s.heap.objs.size (.tup [.int (i : Nat), x])) { s with heap := h'', toks := tk + 1 } :=
      I.turnedNew (ch := [e, it]) (fun b ob hb q => (sb.2 b (fun z => hb (by simp [z]))).trans (hk b ob (fun z => hb (by simp [z])) (fun z => hb (by simp [z])) q)) hf (Nat.le_refl _) new
    refine ⟨.ref s.heap.objs.size, _, I1, rfl, ⟨_, x, rfl, I.hok.fresh (Nat.le_refl _), rfl, fun ys hy => ?_⟩, ⟨⟨x2, ?_⟩, hit'.1.at fun o q => (sb.2 it (Ne.symm hne)).trans q, hne⟩, fun b hb => ?_⟩
    · rw [I.tuple_inj hy hq]
      exact hx
    · have e1 : ((i + 1 : Nat) : Int) = (i : Int) + 1 := by omega
      rw [e1]
      exact he'
    · have hb' : b < s.heap.objs.size := by
        rcases (show b = e ∨ b = it by simpa using hb) with z | z
        · rw [z]; exact hel
        · rw [z]; exact hil
      rw [upd_ne (Nat.ne_of_lt hb')]
      exact (hf b hb).1
  done := by
    intro X hP hw hK hc i pins s σ H E I hf st hg
    subst hP hw hK
    obtain ⟨⟨old, he⟩, hit, hne⟩ := st
    obtain ⟨xs, hq, hx⟩ := hg
    obtain ⟨its, rv, pl, hz⟩ := I.tuple hq
    obtain ⟨f0, f1, f2, f3, f4, f5⟩ := hf it (by simp)
    have hl := rv.length
    exact enum_tup_end (I.ok.hd hc) he hit (show s.heap.IsTuple a its.toArray from pl) (by simp; omega) fun h' eb => ⟨rfl, I.turned (t' := s.toks) (fun b o hb q => eb b o hb q) f0 f1 f3 f4 f5⟩
  self := fun A i s Q E st h => let ⟨⟨_, he⟩, _⟩ := st; wpAny_pyIter_enum he h
def iEnumT (K : PySem.W.Frag) (ta : TA) : TI := fun σ H R => ta σ H fun vs H1 => ∃ a xs, vs = [.ref a] ∧ ((SqL K H1 a xs ∧ R (Ite K a) H1) ∨ (SqT K H1 a xs ∧ R (IteT K a) H1))
theorem pi_enumT {X : Cx} {e : Expr} {ta : TA} {p pos tpos : Pos} {elts : List Expr} {kk : Nat} (hg : Gl X "enumerate") (hm : X.mg "enumerate" = none) (ha : PA X [e] ta) (hs : starEach [e] X.env = [(false, eval e X.env)] := by rfl) :
    PI X (.Tuple elts kk tpos) (.Call (.Name "enumerate" p) [e] [] pos) (iEnumT X.K ta) := by
  refine ⟨fun pins s σ H R I h => ?_⟩
  refine Call_ (ld_blt I hg hm boot_enumerate (PyProof.Rows.callWith_type1 (thn (ha.run pos pins s σ H _ I h) fun us s1 ⟨vs, H1, I1, r1, a, xs, ex, q⟩ => ?_) hs rfl))
  subst ex
  cases r1 with
  | cons r rr =>
    cases rr
    cases r
    have fin : ∀ {h' : Heap} {J : It} {tn : Nat → Heap → Prop}, (∀ b o, s1.heap.get? b = some o → h'.get? b = some o) → Turn X.prog X.w X.K (.Tuple elts kk tpos) J [s1.heap.objs.size + 1, s1.heap.objs.size] (s1.heap.objs.size + 1) tn → tn 0 h' → R J H1 →
        PIE X pins σ (.Tuple elts kk tpos) R (.ref (s1.heap.objs.size + 1)) { s1 with heap := h' } := by
      intro h' J tn hk tr t0 q
      refine ⟨_, _, _, _, H1, rfl, I1.kept (t' := s1.toks) hk, tr, t0, fun b hb => ?_, q⟩
      have hle : s1.heap.objs.size ≤ b := by
        rcases (show b = s1.heap.objs.size + 1 ∨ b = s1.heap.objs.size by simpa using hb) with z | z
        · rw [z]; exact Nat.le_add_right _ _
        · rw [z]; exact Nat.le_refl _
      exact I1.fpOk hle (I1.hok.fresh hle)
    rcases q with ⟨hq, q⟩ | ⟨hq, q⟩
    · obtain ⟨its, rv, pl, hz⟩ := I1.list hq
      exact call_enumerate_list pl.isList fun h' he hit hsz hk => wpAny_pyIter_enum he (fin hk (turn_enum a (s1.heap.objs.size + 1) s1.heap.objs.size) ⟨⟨.none, he⟩, hit, Nat.succ_ne_self _⟩ q)
    · obtain ⟨its, rv, pl, hz⟩ := I1.tuple hq
      exact call_enum_tup (show s1.heap.IsTuple a its.toArray from pl) fun h' he hit hsz hk => wpAny_pyIter_enum he (fin hk (turn_enumT a (s1.heap.objs.size + 1) s1.heap.objs.size) ⟨⟨.none, he⟩, hit, Nat.succ_ne_self _⟩ q)
theorem walk_enumT {K : PySem.W.Frag} {a : Addr} {xs : List V} : Walk (IteT K a) xs.length (fun H => SqT K H a xs) (YPair (fun i => some (.int (i : Nat))) (fun i => xs[i]?)) := by
  refine ⟨fun i _ hi q => ⟨xs, xs[i], q, by simp [hi]⟩, fun _ q => ⟨xs, q, Nat.le_refl _⟩, fun i H v H' _ q y => ?_⟩
  obtain ⟨T, x, h1, h2, h3, h4⟩ := y
  exact ⟨T, .int (i : Nat), x, h1, h2, h3, rfl, h4 xs q⟩
end T3
set_option linter.all false
set_option maxRecDepth 100000
set_option maxHeartbeats 2000000
set_option Elab.async false
/-! T24: for i, x in enumerate(xs). -/
namespace T3
open L2 LamX PySem PyProof.Rows PySem.Spec
def enumD : Nat → List PyData → List PyData
  | _, [] => []
  | k, x :: xs => .tuple [.int (k : Nat), x] :: enumD (k + 1) xs
theorem enumD_len : ∀ (k : Nat) (xs : List PyData), (enumD k xs).length = xs.length
  | _, [] => rfl
  | k, x :: xs => by
    show (enumD (k + 1) xs).length + 1 = xs.length + 1
    rw [enumD_len (k + 1) xs]
theorem enumD_at : ∀ {k : Nat} {xs : List PyData} {i : Nat} {x : PyData}, xs[i]? = some x → (enumD k xs)[i]? = some (.tuple [.int ((k + i : Nat) : Int), x])
  | k, [], i, x, h => by simp at h
  | k, y :: ys, 0, x, h => by
    have e : y = x := by simpa using h
    subst e
    rfl
  | k, y :: ys, i + 1, x, h => by
    have z := enumD_at (k := k + 1) (xs := ys) (i := i) (x := x) (by simpa using h)
    have e : k + 1 + i = k + (i + 1) := by omega
    rw [e] at z
    exact z
theorem wlen {J : It} {n m : Nat} {G : Hp → Prop} {Y : _} (h : Walk J n G Y) (e : m = n) : Walk J m G Y := by
  subst e
  exact h
section
variable {X : Cx} {T : List (Addr × Str)} {E : XK} {a : Expr} {pos p : Pos}
def wIe (w : W) : WI := fun ρ Q X => w ρ (fun r => r.sq fun wk _ xs => Q wk (enumD 0 xs)) X
theorem ei_enum {wa : W} {tpos : Pos} {elts : List Expr} {kk : Nat} (hg : Gl X "enumerate") (hm : X.mg "enumerate" = none) (ha : PE X a (lift (pm X T) E wa)) (hs : starEach [a] X.env = [(false, eval a X.env)] := by rfl) :
    PI X (.Tuple elts kk tpos) (.Call (.Name "enumerate" p) [a] [] pos) (liftI (pm X T) E (wIe wa)) := by
  refine PIimp (pi_enumT hg hm (pa_cons (PElen ha) pa_nil hs) hs) fun σ H R ⟨H0, M0, M, ρ, XW, Q3, re, xo, q, k⟩ => ?_
  refine ⟨H0, M0, M, ρ, XW, _, re, xo, q, fun r v H1 qr e1 t1 rr len => ?_⟩
  obtain ⟨a1, vs, wk, t, xs, rfl, sq, qx⟩ := rr.sq re.mdom qr
  have hl : (enumD 0 xs).length ≤ sizeLine := by
    rw [enumD_len, ← sq.2.length]
    exact len _ _ rfl sq.sq
  have yields : ∀ {F H3 H4 : Hp} {v : V} {M' : Ad} {i : Nat}, DMs X.K M F vs xs → ExtN F H3 → (∀ c, M' c → M c ∨ Off F c) → (∀ c, M' c → ¬ Off H3 c) → YPair (fun i => some (.int (i : Nat))) (fun i => vs[i]?) i H3 v H4 →
      ExtN H3 H4 ∧ (Tabs (pm X T).T H3 → Tabs (pm X T).T H4) ∧ ∃ x, (enumD 0 xs)[i]? = some x ∧ DM X.K M' H4 v x := by
    rintro F H3 H4 v M' i d1 e m md ⟨tp, u, z, rfl, hT, rfl, hu, hz⟩
    cases hu
    obtain ⟨x, hx, dx⟩ := d1.get hz
    have z2 := enumD_at (k := 0) hx
    rw [Nat.zero_add] at z2
    exact ⟨ext_new hT, fun t => tabs_new t hT, _, z2, pair_new md hT (.int _) (dx.off e m)⟩
  refine ⟨a1, vs, rfl, ?_⟩
  cases t with
  | false =>
    refine .inl ⟨SqL.of sq.1.1, k wk _ _ H1 qx e1 t1 hl fun F h1 h2 => ?_⟩
    have z := sq.part h1 h2
    exact ⟨⟨_, _, wlen (walk_enum (xs := vs)) (by rw [enumD_len, sq.2.length]), fun H3 e => SqL.of (e _ _ z.1.1 (fun ps q => by cases q)), fun i H3 x H4 M' _ e m md y => yields z.2 e m md y⟩⟩
  | true =>
    refine .inr ⟨TupM.sq sq.1, k wk _ _ H1 qx e1 t1 hl fun F h1 h2 => ?_⟩
    have z := sq.part h1 h2
    exact ⟨⟨_, _, wlen (walk_enumT (xs := vs)) (by rw [enumD_len, sq.2.length]), fun H3 e => sqT_ext e (TupM.sq z.1), fun i H3 x H4 M' _ e m md y => yields z.2 e m md y⟩⟩
end
end T3
set_option linter.all false
set_option maxRecDepth 100000
set_option maxHeartbeats 2000000
set_option Elab.async false
/-! T25: lists of ints as trees; ranges; what was drawn. -/
namespace T3
open L2 LamX PySem PyProof.Rows PySem.Spec
abbrev tupI (ns : List Int) : PyData := .tuple (ns.map .int)
theorem at_map {ns : List Int} {i : Nat} (h : i < ns.length) : atI (ns.map PyData.int) (i : Int) = some (.int (ns.getD i 0)) := by
  rw [at_nat (by rw [List.length_map]; exact h)]
  simp [List.getD_eq_getElem?_getD, List.getElem?_eq_getElem h]
theorem set_map {ns : List Int} (i : Nat) (v : Int) : (ns.map PyData.int).set i (.int v) = (ns.set i v).map .int := by rw [List.map_set]
theorem tupI_inj {a b : List Int} (h : tupI a = tupI b) : a = b := List.map_inj_right (fun a b h => PyData.int.inj h) |>.mp (PyData.tuple.inj h)
theorem made_ints {S : PyData → PyData → Prop} {lo hi : Int} (hS : ∀ x y, S x y → ∃ i : Int, y = .int i ∧ lo ≤ i ∧ i ≤ hi) : ∀ {xs ys : List PyData}, Made (fun x o => ∃ y, o = some y ∧ S x y) xs ys → ∃ js : List Int, ys = js.map .int ∧ js.length = xs.length ∧ ∀ j ∈ js, lo ≤ j ∧ j ≤ hi
  | _, _, .nil => ⟨[], rfl, rfl, fun _ h => by cases h⟩
  | _, _, .keep ⟨y, h, s⟩ r => by
    cases h
    obtain ⟨js, rfl, h1, h2⟩ := made_ints hS r
    obtain ⟨i, rfl, hi⟩ := hS _ _ s
    exact ⟨i :: js, rfl, by simp [h1], fun j hj => (List.mem_cons.mp hj).elim (fun e => by subst e; exact hi) (h2 j)⟩
  | _, _, .drop h _ => by obtain ⟨y, h, _⟩ := h; cases h
theorem rgD_len0 {n : Int} (h : 0 ≤ n) : (rgD 0 n).length = n.toNat := by simp [rgD]
theorem rg_len (n : Nat) : (rgD 0 n).length = n := by simp [rgD]
theorem rg_in {n : Nat} {x : PyData} (h : x ∈ rgD 0 n) : ∃ i : Nat, x = .int i ∧ i < n := by
  unfold rgD at h
  obtain ⟨i, hi, rfl⟩ := List.mem_map.mp h
  rw [List.mem_range] at hi
  exact ⟨i, by simp, by omega⟩
end T3
set_option linter.all false
set_option maxRecDepth 100000
set_option maxHeartbeats 2000000
set_option Elab.async false
/-! T26: < of tuples of ints; sorted of lists and tuples of ints. -/
namespace T3
open L2 LamX PySem PyProof.Rows PySem.Spec
def ltDD : Op2 := fun x y k => match x, y with
  | .int i, .int j => k (.d (.bool (decide (i < j))))
  | .tuple a, .tuple b => ∃ ns ms : List Int, a = ns.map PyData.int ∧ b = ms.map PyData.int ∧ k (.d (.bool (HT.lexLt ns ms)))
  | _, _ => False
theorem op_ltDD {X : Cx} {T : List (Addr × Str)} (hu : X.A.units + 64 < cLine) : OpR X (compareOp .Lt) (rD (pm X T) ltDD) := OpRimp (op_lt.or (op_ltT (by omega))) fun x y H Q h => by
  obtain ⟨M, d, e, Q3, hm, ht, hd, he, q, k⟩ := h
  unfold ltDD at q
  split at q
  · exact .inl ⟨_, _, hd.int, he.int, k _ _ _ q (ExtN.refl H) ht (.bl _)⟩
  · obtain ⟨a, vs, e1, l1, r1⟩ := hd.tup
    obtain ⟨b, ws, e2, l2, r2⟩ := he.tup
    obtain ⟨ns, ms, rfl, rfl, q⟩ := q
    cases r1.ints
    cases r2.ints
    exact .inr ⟨a, b, ns, ms, e1, e2, l1.sq, l2.sq, k _ _ _ q (ExtN.refl H) ht (.bl _)⟩
  · exact q.elim
/-! ### sorted -/
section
variable {prog : Program} {w : World} {A : Around} {E : Value → Shared → Prop} {s : Shared}
theorem collect_tup {l : Addr} {vs : List Value} {Q : List Value → Shared → Prop} (hl : s.heap.IsTuple l vs.toArray)
    (h : Q vs { s with heap := (s.heap.push (seqObj "list" #[] 0)).update s.heap.objs.size (Obj.mapSeq (· ++ vs.toArray)) }) (hsz : vs.length ≤ sizeLine) :
    wpAny (model prog w) A (collect (.ref l)) Q E s := by
  obtain ⟨o, ho, hc, n, hd⟩ := id hl
  unfold collect
  refine wpAny_bind (wpAny_runValue (codeAny_builtin entry_proto_collect' ?_))
  show wpAny _ _ (do again (.builtin "list.__iadd__" ⟨[← newList [], .ref l], []⟩)) _ _ s
  refine wpAny_bind (wpAny_newList (wpAny_pure ⟨Code.quiet_builtin _ (by decide +kernel), codeAny_builtin entry_list_iadd' ?_⟩))
  show wpAny _ _ (Builtin.List.listExtendWith (.ref s.heap.objs.size) (.ref l) (.ref s.heap.objs.size)) _ _ { s with heap := s.heap.push (seqObj "list" #[] 0) }
  unfold Builtin.List.listExtendWith
  have ho' : (s.heap.push (seqObj "list" #[] 0)).get? l = some o := Heap.get?_push_of_some _ ho
  refine wpAny_bind (wpAny_typeOf (T := "tuple") ⟨o, ho', hc⟩ ?_)
  have ht : (Value.type "tuple" == Value.type "tuple") = true := by rfl
  rw [if_pos (by rw [ht]; simp)]
  refine wpAny_bind (listItems_at ho' hd ?_)
  refine wpAny_bind (listItems_at (xs := #[]) (n := 0) (Heap.get?_push_size _ rfl) rfl ?_)
  rw [if_neg (by simp)]
  refine wpAny_bind (listUpdate_at (xs := #[]) (n := 0) (Heap.get?_push_size _ rfl) rfl ?_ (Nat.zero_le _) (by show (#[] ++ vs.toArray).size ≤ sizeLine + 1; simp only [Array.size_append, List.size_toArray, List.length_nil]; omega))
  refine wpAny_pure ?_
  show wpAny (model prog w) A (do
      let o ← load s.heap.objs.size
      match o.data with
      | .seq xs _ => pure xs.toList
      | _ => unsupported "internal:collect") Q E { s with heap := (s.heap.push (seqObj "list" #[] 0)).update s.heap.objs.size (Obj.mapSeq (· ++ vs.toArray)) }
  refine wpAny_bind (wpAny_load (get?_update_seq (Heap.get?_push_size _ rfl) _) ?_)
  show wpAny _ _ (pure ((#[] : Array Value) ++ vs.toArray).toList) Q E _
  rw [show ((#[] : Array Value) ++ vs.toArray).toList = vs by simp]
  exact wpAny_pure h
theorem sorted_tup {l : Addr} {vs : List Value} {ns : List Int} {Q : Value → Shared → Prop} (hl : s.heap.IsTuple l vs.toArray) (hi : IntsAre vs ns) (hz : vs.length ≤ sizeLine)
    (h : ∀ out : List Value, SrtO.Srtd SrtO.ltIv out → SrtO.Stb SrtO.ltIv out vs → Q (.ref (s.heap.objs.size + 1)) { s with heap := sortedAll s.heap vs out.toArray }) :
    wpAny (model prog w) A (call (.builtin "sorted") [.ref l]) Q E s := by
  refine Calls.call_function_entry kind_sorted plain_sorted entry_sorted (args_sorted1 _) ?_
  unfold Builtin.«sorted»
  refine wpAny_bind (m := checkCount "sorted" 1 1 _) (wpAny_pure ?_)
  refine wpAny_bind (collect_tup hl ?_ hz)
  refine wpAny_bind (wpAny_newList ?_ hz)
  have hsz : ((s.heap.push (seqObj "list" #[] 0)).update s.heap.objs.size (Obj.mapSeq (· ++ vs.toArray))).objs.size = s.heap.objs.size + 1 := by
    rw [Heap.size_update, size_push']
  have hoL : (((s.heap.push (seqObj "list" #[] 0)).update s.heap.objs.size (Obj.mapSeq (· ++ vs.toArray))).push (seqObj "list" vs.toArray 0)).get? (s.heap.objs.size + 1) = some (seqObj "list" vs.toArray 0) := by
    rw [← hsz]; exact Heap.get?_push_size _ rfl
  show wpAny _ _ _ _ _ { s with heap := ((s.heap.push (seqObj "list" #[] 0)).update s.heap.objs.size (Obj.mapSeq (· ++ vs.toArray))).push (seqObj "list" vs.toArray 0) }
  rw [hsz]
  refine wpAny_bind (wpAny_holding (wpAny_call_entry slot_list_sort ⟨_, hoL, rfl⟩ entry_list_sort (SrtO.list_sort_ord SrtO.swo_int hoL hz (fun h2 => SrtO.ints_sortable hi h2) fun out hs hb => ⟨_, rfl, ?_⟩) (args_list_sort _)))
  exact wpAny_pure ⟨_, rfl, h out hs hb⟩
end
section
variable {X : Cx} {T : List (Addr × Str)}
def rSortTI (K : PySem.W.Frag) : List V → Hp → VK → Prop := fun vs H Q => ∃ (a : Addr) (ns : List Int), vs = [V.ref a] ∧ SqT K H a (ns.map V.int) ∧
  ∀ (ns' : List Int) (p : Addr), ns'.Perm ns → ns'.Pairwise (· ≤ ·) → H p = none → Q (.ref p) (upd H p (.lst (ns'.map V.int)))
theorem cr_sortTI : CallR X (.builtin "sorted") (rSortTI X.K) := by
  intro pins s σ H vs us Q I r h
  obtain ⟨a, ns, rfl, hs, q⟩ := h
  obtain ⟨its, rv, hl, hz⟩ := I.tuple hs
  rw [Vals.ref1 r]
  have hi := rv.ints
  refine sorted_tup (show s.heap.IsTuple a its.toArray from hl) hi (by rw [← rv.length]; exact hz) fun out h1 h2 => ?_
  obtain ⟨k1, k2, k3⟩ := SrtO.ints_out hi h1 h2
  obtain ⟨ep, he'⟩ := PyProof.Rows.sortedAll_at s.heap its out.toArray
  have hlen : ((out.map SrtO.iv).map V.int).length ≤ sizeLine := by
    rw [List.length_map, k2.length_eq]
    rw [List.length_map] at hz
    exact hz
  exact ⟨.ref _, upd H (s.heap.objs.size + 1) (.lst ((out.map SrtO.iv).map V.int)), I.laid (t' := s.toks) (fun _ _ => PyProof.Rows.sortedAll_old) (Nat.le_succ _) ⟨hlen, out, ep, vals_of_ints k1, he'⟩, rfl, q _ _ k2 k3 (I.hok.fresh (Nat.le_succ _))⟩
def sortedDI : OpL := fun xs k => match xs with
  | [.list a] => ∃ ns : List Int, a = ns.map PyData.int ∧ ∀ ms : List Int, ms.Perm ns → ms.Pairwise (· ≤ ·) → k (.fr (ms.map PyData.int))
  | [.tuple a] => ∃ ns : List Int, a = ns.map PyData.int ∧ ∀ ms : List Int, ms.Perm ns → ms.Pairwise (· ≤ ·) → k (.fr (ms.map PyData.int))
  | _ => False
theorem cr_sortedDI : CallR X (.builtin "sorted") (rDs (pm X T) sortedDI) := CallRimp (cr_sortedI.or cr_sortTI) fun vs H Q h => by
  obtain ⟨M, ds, Q3, hm, ht, hp, q, k⟩ := h
  unfold sortedDI at q
  split at q
  · obtain ⟨v, rfl, h⟩ := one_of hp
    obtain ⟨a, ws, rfl, l, r⟩ := h.lst
    obtain ⟨ns, rfl, q⟩ := q
    cases r.ints
    exact .inl ⟨a, ns, rfl, SqL.of l, fun ns' p h1 h2 np => k _ _ _ (q ns' h1 h2) (ext_new np) (tabs_new ht np) (lst_new (ExtN.refl H) np (dms_ints ns'))⟩
  · obtain ⟨v, rfl, h⟩ := one_of hp
    obtain ⟨a, ws, rfl, l, r⟩ := h.tup
    obtain ⟨ns, rfl, q⟩ := q
    cases r.ints
    exact .inr ⟨a, ns, rfl, l.sq, fun ns' p h1 h2 np => k _ _ _ (q ns' h1 h2) (ext_new np) (tabs_new ht np) (lst_new (ExtN.refl H) np (dms_ints ns'))⟩
  · exact q.elim
end
end T3
set_option linter.all false
set_option maxRecDepth 100000
set_option maxHeartbeats 2000000
set_option Elab.async false
/-! T27: sorted(rows, key=lambda x: (len(x), x)), rows of tuples of ints. -/
namespace T3
open L2 LamX PySem PyProof.Rows PySem.Spec
theorem reads_ints {h : Heap} : ∀ {vs : List Value} {ns : List Int}, IntsAre vs ns → ReadsAll h vs (ns.map PyData.int) []
  | _, _, .nil => .nil
  | _, _, .cons n t r => .cons (as := []) (bs := []) (.int n t) (reads_ints r)
abbrev lenKey (x : Str) (p1 p2 p3 p4 p5 : Pos) (k0 : Nat) : Expr := .Tuple [.Call (.Name "len" p1) [.Name x p2] [] p3, .Name x p4] k0 p5
section
variable {prog : Program} {w : World} {A : Around} {s : Shared}
theorem lenkey_run {f c' t : Addr} {x q : Str} {params : Arguments} {scope : Scope} {pm ctv : Value} {mg mb : Str → Option Value} {its : List Value} {ns : List Int} {k0 : Nat} {p1 p2 p3 p4 p5 : Pos}
    (hroom : A.depth < recursionLimit) (hf : s.heap.get? f = some (PySem.W.kla_obj "<lambda>" q params (lenKey x p1 p2 p3 p4 p5 k0) scope [] pm c' ctv)) (hcr : s.heap.CodeRec (.ref c') q)
    (hbind : bindArgs (PySem.W.kla_fn "<lambda>" q params (lenKey x p1 p2 p3 p4 p5 k0) scope [] pm (.ref c') ctv) ⟨[.ref t], []⟩ = pure [(x, .ref t)])
    (hk : scope.kind = .function) (hco : scope.isCoroutine = false) (hgn : scope.isGenerator = false) (hnc : ∀ y ∈ scope.names, y.2 ≠ .cell) (hx : scope.names.lookup x = some .local) (hl : scope.names.lookup ("len" : Str) = some .globalImplicit)
    (hxd : (x == ("__debug__" : Str)) = false)
    (glob : s.heap.Ns mainGlobals mg) (hm : mg "len" = none) (blt : s.heap.Ns builtinsNs mb) (hb : mb "len" = some (.builtin "len")) (lim : s.heap.NoLimit)
    (hT : s.heap.IsTuple t its.toArray) (hi : IntsAre its ns) (hz : its.length ≤ sizeLine) :
    wpAny (model prog w) A (call (.ref f) [.ref t]) (PySem.W.KeyPure (.tuple [.int ns.length, .tuple (ns.map .int)]) s) (fun _ _ => False) s := by
  have rc : codeAny (model prog w) A (.call (.ref f) ⟨[.ref t], []⟩) (fun r s' => ∃ v, r = .ok (.ret v) ∧ PySem.W.KeyPure (.tuple [.int ns.length, .tuple (ns.map .int)]) s v s') s := by
    refine PySem.W.kla_callFunE hroom hf rfl hco hgn rfl hcr ?_
    rw [hbind]
    refine wpAny_pure (wpAny_newFunctionEnv hnc (fun y hy => ?_) (fun h₁ hns hsb => ⟨lim.fresh _ hsb, ?_⟩) hk)
    · have e := List.mem_singleton.mp hy
      subst e
      exact hx
    have kp : ∀ b o, s.heap.get? b = some o → h₁.get? b = some o := fun b o e => hsb.extBut b o (Nat.ne_of_lt (Heap.lt_size e)) (Heap.get?_push_of_some _ e)
    generalize henv : newEnv scope s.heap.objs.size mainGlobals [] (q ++ ".<locals>.") (some f) (Value.ref c') none builtinsNs = env
    have e1 : env.scope = scope := by rw [← henv]; rfl
    have e2 : env.locals = s.heap.objs.size := by rw [← henv]; rfl
    have e3 : env.globals = mainGlobals := by rw [← henv]; rfl
    have e4 : env.builtins = builtinsNs := by rw [← henv]; rfl
    have kx : env.kindOf x = some .local := by rw [← henv]; exact hx
    have kl : env.kindOf "len" = some .globalImplicit := by rw [← henv]; exact hl
    have hnx : h₁.Ns env.locals (fun y => [(x, Value.ref t)].reverse.lookup y) := by
      rw [e2]
      exact hns
    have hvx : (fun y => [(x, Value.ref t)].reverse.lookup y) x = some (.ref t) := by simp
    have name : ∀ {h2 : Heap} {tk : Nat} {p : Pos} {A' : Around} {E' : Value → Shared → Prop} {Q' : Value → Shared → Prop}, h2 = h₁ → Q' (.ref t) { s with heap := h2, toks := tk } → wpAny (model prog w) A' (eval (.Name x p) env) Q' E' { s with heap := h2, toks := tk } := by
      rintro h2 tk p A' E' Q' rfl hq
      exact wpAny_Name (wpAny_loadName_local (by rw [e1]; exact hk) kx hnx hvx hq) hxd
    refine PySem.W.kla_codeExpr ?_
    refine wpAny_Tuple_spliced ?_
    show wpAny _ _ (spliced [(false, eval (.Call (.Name "len" p1) [.Name x p2] [] p3) env), (false, eval (.Name x p4) env)]) _ _ _
    refine Calls.spliced_cons (wpAny_Call_Name_kw (Calls.Name_function_global (by rw [e1]; exact hk) kl (Calls.loadGlobal_builtin (by rw [e3]; exact glob.keeps kp) hm (by rw [e4]; exact blt.keeps kp) hb ?_) (by decide)))
    refine PyProof.Rows.callWith_builtin1 ?_ (by rfl) (by rfl)
    show wpAny _ _ (spliced [(false, eval (.Name x p2) env)]) _ _ _
    refine Calls.spliced_cons (name rfl (Calls.spliced_nil ?_))
    have hT1 : h₁.IsTuple t its.toArray := by
      obtain ⟨o, ho, r⟩ := hT
      exact ⟨o, kp _ _ ho, r⟩
    have hn := line63
    refine len_tuple hT1 (by simp only [List.size_toArray] <;> omega) ?_
    refine Calls.spliced_cons (name rfl (Calls.spliced_nil ?_))
    refine ⟨by show (2 : Nat) ≤ sizeLine; rw [sizeLine_eq]; omega, _, rfl, _, _, rfl, fun b o e => Heap.get?_push_of_some _ (kp b o e), ?_⟩
    refine .tuple (as := []) (vs := #[_, _]) (n := 0) (Heap.get?_push_size _ rfl) rfl rfl ?_
    obtain ⟨o, ho, hc, n, hd⟩ := hT1
    have e5 : ((its.toArray.size : Nat) : Int) = (ns.length : Nat) := by
      rw [List.size_toArray, hi.length]
    refine .cons (as := []) (bs := []) ?_ (.cons (as := []) (bs := []) (.tuple (Heap.get?_push_of_some _ ho) hc hd (by simpa using reads_ints hi)) .nil)
    rw [e5]
    exact .int _ _
  refine wpAny_call (codeAny_mono rc fun r s' hq => ?_)
  obtain ⟨v, rfl, h⟩ := hq
  exact h
end
end T3
set_option linter.all false
set_option maxRecDepth 100000
set_option maxHeartbeats 2000000
set_option Elab.async false
/-! T28: sorted(rows, key=lambda x: (len(x), x)) in the layer. -/
namespace T3
open L2 LamX PySem PyProof.Rows PySem.Spec
def keyLL (ns : List Int) : PyData := .tuple [.int ns.length, .tuple (ns.map PyData.int)]
def wSortLL (w : W) : W := fun ρ Q X => w ρ (fun r => r.wk fun x => ∃ lots : List (List Int), x = .list (lots.map tupI) ∧ ∀ ys : List (List Int), ys = lots.mergeSort (PySem.W.dataLe false keyLL) → Q (.fr (ys.map tupI))) X
def RowI (K : PySem.W.Frag) (M : Ad) (H : Hp) (h : Heap) (u : Value) (ns : List Int) : Prop :=
  ∃ (t : Addr) (its : List Value), u = .ref t ∧ DM K M H (.ref t) (tupI ns) ∧ h.IsTuple t its.toArray ∧ IntsAre its ns ∧ its.length ≤ sizeLine
theorem rows_back {K : PySem.W.Frag} {M : Ad} {H : Hp} {h : Heap} : ∀ {out : List Value} {ys : List (List Int)}, PySem.W.EachIs (RowI K M H h) out ys → ∃ vs : List V, Vals vs out ∧ DMs K M H vs (ys.map tupI)
  | _, _, .nil => ⟨[], .nil, .nil⟩
  | _, _, .cons ⟨t, its, e, d, _⟩ r => by
    subst e
    obtain ⟨vs, a, b⟩ := rows_back r
    exact ⟨.ref t :: vs, .cons rfl a, .cons d b⟩
theorem alike_ints : ∀ as bs : List Int, PySem.W.alikeAll (as.map PyData.int) (bs.map PyData.int) = true
  | [], _ => by simp [PySem.W.alikeAll]
  | _ :: _, [] => by simp [PySem.W.alikeAll]
  | a :: as, b :: bs => by
    rw [List.map_cons, List.map_cons, PySem.W.alikeAll, alike_ints as bs]
    simp [PySem.W.alike]
theorem keyLL_alike (a b : List Int) : PySem.W.alike (keyLL a) (keyLL b) = true := by
  unfold keyLL
  simp [PySem.W.alike, PySem.W.alikeAll, alike_ints]
theorem keyLL_depth (a : List Int) : (keyLL a).depth ≤ 2 := (lay_t (k := 1) (xs := [.int a.length, .tuple (a.map PyData.int)]) (fun x hx => by
  simp only [List.mem_cons, List.not_mem_nil, or_false] at hx
  rcases hx with rfl | rfl
  · exact (lay_i _).mono (by omega)
  · exact lay_ints a)).2
theorem bb_sorted2 : bootBuiltins "sorted" = some (.builtin "sorted") := by decide +kernel
theorem bb_len2 : bootBuiltins "len" = some (.builtin "len") := by decide +kernel
section
variable {X : Cx} {T : List (Addr × Str)} {E : XK} {e : Expr} {pos p : Pos}
theorem rows_each {pins : List (Addr × Obj)} {σ : St} {H : Hp} {s : Shared} {M : Ad} (I : Inv X pins σ H s) : ∀ (lots : List (List Int)) {vs : List V} {its : List Value}, DMs X.K M H vs (lots.map tupI) → Vals vs its → PySem.W.EachIs (RowI X.K M H s.heap) its lots
  | [], _, _, .nil, .nil => .nil
  | ns :: lots, _, _, .cons h r, .cons hr rr => by
    have hw : WR X.K M H _ (tupI ns) := .inl h
    obtain ⟨t, ws, rfl, l, r2⟩ := hw.tup
    have e := r2.ints
    subst e
    obtain ⟨its', rv, pl, hz⟩ := I.tuple l.sq
    rw [List.length_map] at hz
    have hi := rv.ints
    exact .cons ⟨t, its', hr, h, pl, hi, by rw [hi.length]; exact hz⟩ (rows_each I lots r rr)
theorem ev_sortLL {w : W} {x : Str} {params : Arguments} {scope : Scope} {lpos kpos p1 p2 p3 p4 p5 : Pos} {k0 k : Nat} (hg : Gl X "sorted") (hm : X.mg "sorted" = none) (hlen : X.mg "len" = none) (he : PE X e (lift (pm X T) E w))
    (hc : PcL X.mg X.base T (X.env.qual ++ "<lambda>") X.env.code) (hr : Room k X.A) (hdef : defaultsOf params X.env = ([], [])) (hclo : ∀ cells, cloFrom cells scope.names [] = []) (hfree : ∀ y ∈ scope.names, y.2 ≠ .free ∧ y.2 ≠ .cell)
    (hk : scope.kind = .function) (hco : scope.isCoroutine = false) (hgn : scope.isGenerator = false) (hx : scope.names.lookup x = some .local) (hl : scope.names.lookup ("len" : Str) = some .globalImplicit) (hxd : (x == ("__debug__" : Str)) = false)
    (hbind : ∀ (q : Str) (pm cv ctv v : Value), bindArgs (PySem.W.kla_fn "<lambda>" q params (lenKey x p1 p2 p3 p4 p5 k0) scope [] pm cv ctv) ⟨[v], []⟩ = pure [(x, v)])
    (hs : starEach [e] X.env = (false, eval e X.env) :: starEach [] X.env := by rfl) :
    PE X (.Call (.Name "sorted" p) [e] [⟨some (Str.ofString "key"), .Lambda params (lenKey x p1 p2 p3 p4 p5 k0) scope lpos, kpos⟩] pos) (lift (pm X T) E (wSortLL w)) := by
  obtain ⟨c, Pt, ec, TB, hT, hu⟩ := hc
  refine ⟨fun pins s σ H Q I ⟨H0, M0, M, ρ, XW, Q3, re, xo, q, k⟩ => ?_⟩
  refine wpAny_Call_Name_kw (ld_blt I hg hm bb_sorted2 ?_)
  refine PyProof.Rows.callWith_kw (thn ((pa_cons he pa_nil hs).run pos pins s σ H (fun vs H1 => ∃ (v : V) (lots : List (List Int)), vs = [v] ∧ ExtN H H1 ∧ Tabs T H1 ∧ WR X.K M H1 v (.list (lots.map tupI)) ∧ ∀ ys : List (List Int), ys = lots.mergeSort (PySem.W.dataLe false keyLL) → Q3 (.fr (ys.map tupI))) I
    ⟨H0, M0, M, ρ, XW, _, re, xo, q, fun r v H1 qr e1 t1 rr => ?_⟩) fun us s1 ⟨vs, H1, I1, r1, q1⟩ => ?_) (by rw [hs]; rfl) (by rw [hs]; rfl) (by rfl) (by rfl)
  · obtain ⟨y, hy, lots, rfl, qy⟩ := rr.weak qr
    exact ⟨v, lots, rfl, e1, t1, hy, qy⟩
  obtain ⟨v, lots, rfl, e1, t1, hv, qy⟩ := q1
  obtain ⟨a, vs, rfl, hla, hd⟩ := hv.lst
  obtain ⟨u, rfl, ru⟩ := vals1 r1
  obtain rfl : u = Value.ref a := ru
  show wpAny _ _ (evalAll [do let v ← eval (.Lambda params (lenKey x p1 p2 p3 p4 p5 k0) scope lpos) X.env; standAt pos; pure v]) _ _ s1
  refine wpAny_evalAll_cons (wpAny_bind (lam_make2 I1 TB ec hT hu t1 hdef (fun y hy e => absurd e (hfree y hy).1) fun f c' pm' ctv H2 s2 I2 eN T2 hf hfn hfr hcd => wpAny_bind (wpAny_standAt (wpAny_pure ?_))))
  refine wpAny_evalAll_nil ?_
  show wpAny (model X.prog X.w) X.A (call (.builtin "sorted") [.ref a] [(Str.ofString "key", .ref f)]) (EP X pins σ Q) X.xe s2
  rw [hclo] at hf
  have hd2 : DMs X.K M H2 vs (lots.map tupI) := DMs.fm (.of eN) hd
  have hla2 : H2 a = some (.lst vs) := eN _ _ hla (fun ps q => by cases q)
  obtain ⟨its, rv, hl2, hz⟩ := I2.list (SqL.of hla2)
  have each := rows_each I2 lots hd2 rv
  obtain ⟨⟨oc, cvs, ct, hoc, hdc, hvc⟩, _, _⟩ := I2.hok c' _ hcd
  obtain ⟨mb, hb1, hb2⟩ := I2.mod.blt
  have hunits := hr.un
  refine PySem.W.sorted_key_data (b := false) keyLL hl2.isList each (PySem.W.AllAlike.of fun a b => keyLL_alike a b) (PySem.W.Sortable.tuples fun _ => ⟨_, _, rfl⟩) (by rw [← each.length, ← rv.length]; exact hz)
    (fun ns _ => by have := keyLL_depth ns; omega) (PyProof.Rows.ksk_s1 _ _) (fun _ => PyProof.Rows.ksk_l1 _ _) (fun _ => PyProof.Rows.ksk_t1 _ _) (fun v ns hv _ h tk kp => ?_) fun out c h' tk kp fresh hD hlo eo => ?_
  · obtain ⟨t, tits, rfl, _, hTt, hi, htz⟩ := hv
    exact lenkey_run (s := { s2 with heap := h, toks := tk }) hr.depth (kp _ _ hf) ⟨c', oc, cvs, ct, rfl, kp _ _ hoc, hdc, hvc⟩ (hbind _ _ _ _ _) hk hco hgn (fun y hy => (hfree y hy).2) hx hl hxd
      ((I2.mod.glob.keeps I2.bk).keeps kp) hlen ((hb1.keeps I2.bk).keeps kp) ((hb2 "len" (by decide)).trans bb_len2) (I2.nolimit.keeps kp) (by obtain ⟨o, ho, r⟩ := hTt; exact ⟨o, kp _ _ ho, r⟩) hi htz
  · obtain ⟨vs', a1, a2⟩ := rows_back eo
    have np : H2 (s2.heap.objs.size + 1) = none := I2.hok.fresh (Nat.le_succ _)
    refine ⟨.ref (s2.heap.objs.size + 1), upd H2 (s2.heap.objs.size + 1) (.lst vs'), I2.laid (t' := tk) kp (Nat.le_succ _) ⟨?_, out, c, a1, hD⟩, rfl, k (.fr _) _ _ (qy _ rfl) ((e1.trans eN).trans (ext_new np)) (tabs_new T2 np) (lst_new (e1.trans eN) np a2)⟩
    rw [a1.length, hlo, ← each.length, ← rv.length]
    exact hz
end
end T3
set_option linter.all false
set_option maxRecDepth 100000
set_option maxHeartbeats 2000000
set_option Elab.async false
/-! T29: x = [..] if c else x, x a list of the frame's own. -/
namespace T3
open L2 LamX PySem PyProof.Rows PySem.Spec
section
variable {X : Cx} {T : List (Addr × Str)} {E : XK} {e a b : Expr} {pos p pos2 : Pos}
def wSetIfO (i : Nat) (wc : WB) (wa : W) : WS := fun D ρ X => wc ρ (fun c => if c = true then wa ρ (fun r => match r with | .fr xs => D.nx (ρ.set i (some (.own xs))) | .fk kvs => D.nx (ρ.set i (some (.dk kvs))) | _ => False) X else ∃ xs, ρ[i]? = some (some (.own xs)) ∧ D.nx ρ) X
theorem set_same {α : Type} {xs : List α} {i : Nat} {x : α} (h : xs[i]? = some x) : xs.set i x = xs := by
  apply List.ext_getElem?
  intro j
  by_cases e : i = j
  · subst e
    have hi := (List.getElem?_eq_some_iff.mp h).1
    rw [List.getElem?_set_self hi, h]
  · rw [List.getElem?_set_ne e]
theorem es_setIfO {i : Nat} {x : Str} {c : Expr} {wc : WB} {wa : W} {pos' : Pos} (hN : X.N.Nodup) (hi : X.N[i]? = some x) (hx : Loc X.env.scope x) (hc : PT X c (liftB (pm X T) E wc)) (ha : PE X a (lift (pm X T) E wa)) (hb : PE X b (tVar i))
    (hs : swapsWith (.IfExp c a b pos2) (some (.Name x pos')) pos.line X.env = pure false := by rfl) (hf : X.fn x = true ∨ X.env.scope.names.lookup x = some .local := by first | exact .inl rfl | exact .inr rfl | assumption) :
    PS X (.Assign [.Name x pos'] (.IfExp c a b pos2) pos) (liftS (pm X T) E (wSetIfO i wc wa)) := PSimp (ps_set hN hi hx (pe_ifExp hc ha hb) hs hf) fun D σ H ⟨H0, M0, M, ρ, XW, D3, re, q, k⟩ => by
  refine ⟨H0, M0, M, ρ, XW, _, re, k.xo re, q, fun c H1 qc e1 t1 => ?_⟩
  cases c with
  | true =>
    have h2 : liftS (pm X T) E (wSetO i wa) D σ H1 := ⟨H0, M0, M, ρ, XW, D3, re.grow e1 t1, qc, k⟩
    exact asgO_lift h2
  | false =>
    obtain ⟨xs, hx, qn⟩ := qc
    obtain ⟨v, h1, _⟩ := re.slot i _ hx
    refine ⟨v, h1, ?_⟩
    show D.nx (σ.set i (some v)) H1
    rw [set_same h1]
    exact k.nx ρ M H1 σ qn (re.grow e1 t1)
end
end T3
set_option linter.all false
set_option maxRecDepth 100000
set_option maxHeartbeats 400000
set_option Elab.async false
/-! T30: equality of lists of ints and of pairs, ranges, what stands within. -/
namespace T3
open L2 LamX PySem PyProof.Rows PySem.Spec
theorem eqv_all_ints : ∀ a b : List Int, PyData.eqvAll (a.map PyData.int) (b.map PyData.int) = decide (a = b)
  | [], [] => by rw [List.map_nil, PyData.eqvAll]; rfl
  | [], b :: bs => by rw [List.map_nil, List.map_cons, PyData.eqvAll]; simp
  | a :: as, [] => by rw [List.map_nil, List.map_cons, PyData.eqvAll]; simp
  | a :: as, b :: bs => by
    rw [List.map_cons, List.map_cons, PyData.eqvAll, eqv_all_ints as bs, eqv_ii]
    by_cases h : a = b <;> by_cases h2 : as = bs <;> simp [h, h2]
theorem eqv_ll (a b : List Int) : PyData.eqv (.list (a.map PyData.int)) (.list (b.map PyData.int)) = decide (a = b) := by
  rw [PyData.eqv, eqv_all_ints]
theorem eqv_tt (a b : List Int) : PyData.eqv (tupI a) (tupI b) = decide (a = b) := by
  rw [tupI, tupI, PyData.eqv, eqv_all_ints]
abbrev pairD (p : Int × Int) : PyData := .tuple [.int p.1, .int p.2]
theorem eqv_pair (p q : Int × Int) : PyData.eqv (pairD p) (pairD q) = decide (p = q) := by
  have z := eqv_tt [p.1, p.2] [q.1, q.2]
  have e : decide ([p.1, p.2] = [q.1, q.2]) = decide (p = q) := by
    cases p
    cases q
    simp
  rw [← e]
  exact z
theorem any_ints (xs : List Int) (k : Int) : ((xs.map PyData.int).any fun z => PyData.eqv z (.int k)) = decide (k ∈ xs) := by
  induction xs with
  | nil => simp
  | cons x xs ih =>
    rw [List.map_cons, List.any_cons, ih, eqv_ii]
    by_cases h : x = k
    · simp [h]
    · have h2 : ¬ k = x := fun e => h e.symm
      simp [h, h2]
theorem any_pairs (xs : List (Int × Int)) (k : Int × Int) : ((xs.map pairD).any fun z => PyData.eqv z (pairD k)) = decide (k ∈ xs) := by
  induction xs with
  | nil => simp
  | cons x xs ih =>
    rw [List.map_cons, List.any_cons, ih, eqv_pair]
    by_cases h : x = k
    · simp [h]
    · have h2 : ¬ k = x := fun e => h e.symm
      simp [h, h2]
theorem lay_pair (p : Int × Int) : Lay 1 (pairD p) := lay_ints [p.1, p.2]
theorem lay_pairs (ps : List (Int × Int)) : Lay 2 (.tuple (ps.map pairD)) := lay_t (k := 1) fun x hx => by
  obtain ⟨p, _, rfl⟩ := List.mem_map.mp hx
  exact lay_pair p
theorem lay_lints (ns : List Int) : Lay 1 (.list (ns.map .int)) := lay_l (k := 0) fun x hx => by
  obtain ⟨i, _, rfl⟩ := List.mem_map.mp hx
  exact lay_i i
/-- 0, 1, .. below m -/
def rgI (m : Nat) : List Int := (List.range m).map fun (i : Nat) => (i : Int)
theorem rgI_D (m : Nat) : rgD 0 (m : Int) = (rgI m).map PyData.int := by
  unfold rgD rgI
  rw [List.map_map]
  have e : ((m : Int) - 0).toNat = m := by omega
  rw [e]
  apply List.map_congr_left
  intro i _
  simp
theorem rgI_len (m : Nat) : (rgI m).length = m := by simp [rgI]
theorem rgI_mem {m : Nat} {i : Int} : i ∈ rgI m ↔ 0 ≤ i ∧ i < m := by
  unfold rgI
  rw [List.mem_map]
  constructor
  · rintro ⟨j, hj, rfl⟩
    rw [List.mem_range] at hj
    omega
  · rintro ⟨h1, h2⟩
    exact ⟨i.toNat, by rw [List.mem_range]; omega, by omega⟩
theorem rgI_lt (m : Nat) : (rgI m).Pairwise (· < ·) := by
  unfold rgI
  rw [List.pairwise_map]
  exact (List.pairwise_lt_range (n := m)).imp fun h => by omega
theorem rgI_le (m : Nat) : (rgI m).Pairwise (· ≤ ·) := (rgI_lt m).imp fun h => by omega
theorem rgI_nodup (m : Nat) : (rgI m).Nodup := (rgI_lt m).imp fun h => by omega
/-- (k, x), (k + 1, y), .. as trees -/
theorem enumD_cons (k : Nat) (x : PyData) (xs : List PyData) : enumD k (x :: xs) = .tuple [.int (k : Nat), x] :: enumD (k + 1) xs := rfl
theorem zip_mem : ∀ {xs ys : List PyData} {z : PyData}, z ∈ zipD xs ys → ∃ a b, a ∈ xs ∧ b ∈ ys ∧ z = .tuple [a, b]
  | [], _, z, h => by simp [zipD] at h
  | _ :: _, [], z, h => by simp [zipD] at h
  | x :: xs, y :: ys, z, h => by
    unfold zipD at h
    rcases List.mem_cons.mp h with rfl | h
    · exact ⟨x, y, List.mem_cons_self, List.mem_cons_self, rfl⟩
    · obtain ⟨a, b, ha, hb, e⟩ := zip_mem h
      exact ⟨a, b, List.mem_cons_of_mem _ ha, List.mem_cons_of_mem _ hb, e⟩
/-- all of a comprehension's truths -/
theorem bools_of (f : PyData → Bool) (xs : List PyData) : ∃ bs : List Bool, (xs.map fun x => PyData.bool (f x)) = bs.map PyData.bool ∧ bs = xs.map f := ⟨_, by rw [List.map_map]; rfl, rfl⟩
theorem ints_back {xs : List PyData} (h : ∀ x ∈ xs, ∃ i : Int, x = .int i) : ∃ ns : List Int, xs = ns.map PyData.int := by
  induction xs with
  | nil => exact ⟨[], rfl⟩
  | cons x xs ih =>
    obtain ⟨i, rfl⟩ := h x List.mem_cons_self
    obtain ⟨ns, rfl⟩ := ih fun y hy => h y (List.mem_cons_of_mem _ hy)
    exact ⟨i :: ns, rfl⟩
theorem pairs_back {xs : List PyData} (h : ∀ x ∈ xs, ∃ p : Int × Int, x = pairD p) : ∃ ps : List (Int × Int), xs = ps.map pairD := by
  induction xs with
  | nil => exact ⟨[], rfl⟩
  | cons x xs ih =>
    obtain ⟨i, rfl⟩ := h x List.mem_cons_self
    obtain ⟨ns, rfl⟩ := ih fun y hy => h y (List.mem_cons_of_mem _ hy)
    exact ⟨i :: ns, rfl⟩
theorem map_int_inj {a b : List Int} (h : a.map PyData.int = b.map PyData.int) : a = b := List.map_inj_right (fun a b h => PyData.int.inj h) |>.mp h
theorem map_pair_inj {a b : List (Int × Int)} (h : a.map pairD = b.map pairD) : a = b := List.map_inj_right (fun a b h => by
  cases a
  cases b
  injection h with h
  injection h with h1 h2
  injection h2 with h2 h3
  injection h1 with h1
  injection h2 with h2
  exact Prod.ext h1 h2) |>.mp h
theorem sort_one {a b : List Int} (h : a.Perm b) (ha : a.Pairwise (· ≤ ·)) (hb : b.Pairwise (· ≤ ·)) : a = b := PySem.W.os_sorted_one h ha hb
end T3
set_option linter.all false
set_option maxRecDepth 100000
set_option maxHeartbeats 400000
set_option Elab.async false
/-! T31: repr(x) != repr(y); ranges cut in two; rising lists. -/
namespace T3
open L2 LamX PySem PyProof.Rows PySem.Spec
def neS : Op2 := fun x y k => match x, y with
  | .str a, .str b => k (.d (.bool (!decide (a = b))))
  | _, _ => False
theorem op_neS {X : Cx} {T : List (Addr × Str)} : OpR X (compareOp .NotEq) (rD (pm X T) neS) := OpRimp op_ne fun x y H Q h => by
  obtain ⟨M, d, e, Q3, hm, ht, hd, he, q, k⟩ := h
  unfold neS at q
  split at q
  · rename_i a b
    have e1 := hd.str
    have e2 := he.str
    subst e1 e2
    refine ⟨rfl, k _ _ _ q (ExtN.refl H) ht ?_⟩
    by_cases c : a = b
    · subst c
      rw [decide_eq_true rfl, decide_eq_true rfl]
      exact .bl false
    · rw [decide_eq_false c, decide_eq_false (fun z => c (V.str.inj z))]
      exact .bl true
  · exact q.elim
theorem shw_bool (b : Bool) : Shw (.bool b) := by cases b <;> exact ⟨by decide +kernel, by decide +kernel, by decide +kernel⟩
/-- m, m + 1, .. below n -/
def rgII (m n : Nat) : List Int := (List.range (n - m)).map fun (i : Nat) => ((m + i : Nat) : Int)
theorem rgII_D {m n : Nat} (h : m ≤ n) : rgD (m : Int) (n : Int) = (rgII m n).map PyData.int := by
  unfold rgD rgII
  rw [List.map_map]
  have e : ((n : Int) - m).toNat = n - m := by omega
  rw [e]
  apply List.map_congr_left
  intro i _
  simp
theorem rg_split {m n : Nat} (h : m ≤ n) : rgI m ++ rgII m n = rgI n := by
  unfold rgI rgII
  have e : n = m + (n - m) := by omega
  generalize n - m = k at e
  subst e
  rw [List.range_add, List.map_append, List.map_map]
  rfl
end T3
set_option linter.all false
set_option maxRecDepth 100000
set_option maxHeartbeats 2000000
set_option Elab.async false
/-! T32: xs[::-1] of lists and tuples. -/
namespace T3
open L2 LamX PySem PyProof.Rows PySem.Spec
section
variable {prog : Program} {w : World} {A : Around} {E : Value → Shared → Prop} {s : Shared}
theorem adjust_rev (n : Nat) : Builtin.Slice.sliceAdjust none none (-1) (n : Int) = ((n : Int) - 1, -1) := by
  unfold Builtin.Slice.sliceAdjust
  simp
theorem places_rev (n : Nat) : Builtin.Slice.slicePlaces ((n : Int) - 1) (-1) (-1) = n := by
  unfold Builtin.Slice.slicePlaces
  have h1 : ¬ ((-1 : Int) > 0) := by decide
  simp only [h1, if_false]
  split
  · have e : (- -1 : Int) = 1 := by decide
    simp only [e, Int.ediv_one]
    omega
  · omega
theorem sliceApplied_rev {sl : Addr} {st : Value} {n : Nat} {Q : Int × Int × Nat → Shared → Prop} (hs : s.heap.IsSliceOf sl .none .none st) (ps : IsPart st (some (-1)))
    (h : Q ((n : Int) - 1, -1, n) s) : wpAny (model prog w) A (Builtin.Slice.sliceApplied (.ref sl) (pure (n : Int))) Q E s := by
  obtain ⟨os, hos, hcs, hds⟩ := id hs
  unfold Builtin.Slice.sliceApplied Builtin.Slice.sliceFields
  refine wpAny_bind (wpAny_bind (wpAny_field hos hds (x := .none) rfl (wpAny_bind (wpAny_field hos hds (x := .none) rfl (wpAny_bind (wpAny_field hos hds (x := st) rfl (wpAny_pure ?_)))))))
  refine wpAny_bind (HT.slicePart_ ps ?_)
  show wpAny _ _ (if ((-1 : Int) == 0) = true then _ else _) _ _ s
  rw [if_neg (by decide)]
  refine wpAny_bind (HT.slicePart_ .none (wpAny_bind (HT.slicePart_ .none (wpAny_bind (wpAny_pure ?_)))))
  show wpAny _ _ (match Builtin.Slice.sliceAdjust none none (-1) (n : Int) with | (lo, hi) => pure (lo, (-1 : Int), Builtin.Slice.slicePlaces lo hi (-1))) _ _ s
  rw [adjust_rev n]
  show wpAny _ _ (pure ((n : Int) - 1, (-1 : Int), Builtin.Slice.slicePlaces ((n : Int) - 1) (-1) (-1))) _ _ s
  rw [places_rev]
  exact wpAny_pure h
theorem fm_congr {α β : Type} {f g : α → Option β} : ∀ {l : List α}, (∀ x ∈ l, f x = g x) → l.filterMap f = l.filterMap g
  | [], _ => rfl
  | x :: l, h => by
    rw [List.filterMap_cons, List.filterMap_cons, h x List.mem_cons_self, fm_congr fun y hy => h y (List.mem_cons_of_mem _ hy)]
theorem pick_rev (xs : Array Value) : ((List.range xs.size).filterMap fun (m : Nat) => xs[(((xs.size : Int) - 1) + (m : Int) * (-1)).toNat]?).toArray = xs.toList.reverse.toArray := by
  have e : ((List.range xs.size).filterMap fun (m : Nat) => xs[(((xs.size : Int) - 1) + (m : Int) * (-1)).toNat]?) = xs.toList.reverse := by
    have h1 : ∀ m ∈ List.range xs.size, xs[(((xs.size : Int) - 1) + (m : Int) * (-1)).toNat]? = xs.toList.reverse[m]? := fun m hm => by
      have hm := List.mem_range.mp hm
      have e2 : (((xs.size : Int) - 1) + (m : Int) * (-1)).toNat = xs.size - 1 - m := by omega
      rw [e2, List.getElem?_reverse (by simpa using hm)]
      simp
    have h2 : (List.range xs.size).filterMap (fun (m : Nat) => xs[(((xs.size : Int) - 1) + (m : Int) * (-1)).toNat]?) = (List.range xs.size).filterMap (fun m => xs.toList.reverse[m]?) := fm_congr h1
    rw [h2]
    have h3 := PySem.W.krv_all xs.toList.reverse.toArray
    simpa using h3
  rw [e]
theorem getItem_tuple_rev {t sl : Addr} {items : Array Value} {st : Value} {Q : Value → Shared → Prop} (ht : IsTup s.heap t items) (hs : s.heap.IsSliceOf sl .none .none st) (ps : IsPart st (some (-1)))
    (h : Q (.ref s.heap.objs.size) { s with heap := s.heap.push { cls := .type "tuple", data := .seq items.toList.reverse.toArray } })
    (hsz : items.size ≤ sizeLine) : wpAny (model prog w) A (getItem (.ref t) (.ref sl)) Q E s := by
  have htake : sizeOk (.seq items.toList.reverse.toArray) := by
    show items.toList.reverse.toArray.size ≤ sizeLine
    rw [List.size_toArray, List.length_reverse, Array.length_toList]
    omega
  obtain ⟨os, hos, hcs, hds⟩ := id hs
  have hTs : s.TypeIs (.ref sl) "slice" := ⟨os, hos, hcs⟩
  unfold getItem
  try with_reducible refine wpAny_holding ?_
  first | refine wpAny_bind (wpAny_pure ?_) | skip
  refine wpAny_bind (wpAny_sequenceKey ht.typeIs (by decide) ?_)
  refine wpAny_bind (wpAny_callSpecial?_slot (name := Str.ofString "__getitem__") ht.typeIs PyProof.Rows.slot_tuple_getitem
    (wpAny_call_entry PyProof.Rows.slot_tuple_getitem ht.typeIs entry_tuple_getitem ?_ (args_tuple_getitem _ _)))
  show wpAny _ _ (Builtin.Tuple.tupleItemsOf (.ref t) >>= _) _ _ s
  refine wpAny_bind (tupleItemsOf_ ht ?_)
  refine wpAny_bind (wpAny_typeOf hTs ?_)
  rw [if_pos (by decide)]
  refine wpAny_bind (sliceApplied_rev hs ps ?_)
  have hno : ¬ ((((items.size : Int) - 1) == 0 && (-1 : Int) == 1 && items.size == items.size) = true) := by
    intro q
    rw [Bool.and_eq_true, Bool.and_eq_true] at q
    exact absurd q.1.2 (by decide)
  show wpAny _ _ (if (((items.size : Int) - 1) == 0 && (-1 : Int) == 1 && items.size == items.size) = true then _ else _) _ _ s
  rw [if_neg hno, pick_rev]
  first
    | exact wpAny_bind (m := Builtin.Tuple.tupleExact _) (wpAny_newObj_type (wpAny_pure ⟨_, rfl, wpAny_pure h⟩) htake)
    | exact wpAny_bind (m := Builtin.Tuple.tupleExact _) (wpAny_newObj_type (wpAny_bind (wpAny_pure (wpAny_pure ⟨_, rfl, wpAny_pure h⟩))) htake)
    | exact wpAny_bind (wpAny_bind (m := Builtin.Tuple.tupleExact _) (wpAny_newObj_type (wpAny_pure (wpAny_pure ⟨_, rfl, wpAny_pure h⟩)) htake))
    | exact wpAny_bind (wpAny_bind (m := Builtin.Tuple.tupleExact _) (wpAny_newObj_type (wpAny_pure ⟨_, rfl, wpAny_pure h⟩) htake))
end
section
variable {X : Cx} {T : List (Addr × Str)} {E : XK}
def tRevS (K : PySem.W.Frag) (te : TE) : TE := fun σ H Q => te σ H fun x H1 => ∃ a xs, x = .ref a ∧ ((SqL K H1 a xs ∧ ∀ p, H1 p = none → Q (.ref p) (upd H1 p (.lst xs.reverse))) ∨ (SqT K H1 a xs ∧ ∀ p, H1 p = none → Q (.ref p) (upd H1 p (.tup xs.reverse))))
theorem pe_revS {e : Expr} {te : TE} {k : Nat} {p1 p2 p3 pos : Pos} (he : PE X e te) : PE X (.Subscript e (.Slice none none (some (.UnaryOp .USub (.Constant (.int 1) k p1) p2)) p3) pos) (tRevS X.K te) := by
  refine ⟨fun pins s σ H Q I h => ?_⟩
  refine Subscript_ (thn (he.run pins s σ H _ I h) fun v s1 ⟨x, H1, I1, r1, q1⟩ => ?_)
  obtain ⟨a, xs, ex, q1⟩ := q1
  subst ex
  cases r1
  have hst : PO X (some (.UnaryOp .USub (.Constant (.int 1) k p1) p2)) (tPart (tUn (rU fun i => .int (-i)) (tC (.int 1)))) := po_some (pe_un un_neg pe_int)
  refine wpAny_Slice (thn (po_none.run pins s1 σ H1 (fun o H2 => o = none ∧ H2 = H1) I1 ⟨rfl, rfl⟩) fun vl s2 ⟨l, H2, I2, pl, el, e2⟩ => ?_)
  subst el e2
  refine thn (po_none.run pins s2 σ H2 (fun o H3 => o = none ∧ H3 = H2) I2 ⟨rfl, rfl⟩) fun vu s3 ⟨u, H3, I3, pu, eu, e3⟩ => ?_
  subst eu e3
  refine thn (hst.run pins s3 σ H3 (fun o H4 => o = some (-1) ∧ H4 = H3) I3 ⟨1, rfl, -1, rfl, rfl, rfl⟩) fun vs s4 ⟨o, H4, I4, ps, eo, e4⟩ => ?_
  subst eo e4
  have I5 : Inv X pins σ H4 { s4 with heap := s4.heap.push { cls := .type "slice", data := .fields #[vl, vu, vs] } } := I4.kept (t' := s4.toks) fun b ob q => Heap.get?_push_of_some _ q
  show wpAny (model X.prog X.w) X.A (subscriptTail e (.Slice none none (some (.UnaryOp .USub (.Constant (.int 1) k p1) p2)) p3) (.ref a) (.ref s4.heap.objs.size)) (EP X pins σ Q) X.xe { s4 with heap := s4.heap.push { cls := .type "slice", data := .fields #[vl, vu, vs] } }
  rcases q1 with ⟨hx, q⟩ | ⟨hx, q⟩
  · obtain ⟨its, r, ht, hz⟩ := I5.list hx
    have hlen := r.length
    refine tail_any (ops := [.ref a, .ref s4.heap.objs.size]) ht.isList.typeIs (PySem.slot_list_getitem.lookup) ?_ (by with_unfolding_all rfl)
    refine wpAny_getItem_list_slice ht.isList (Heap.IsSliceOf.new _ vl vu vs) pl pu ps (by decide) ?_ (by rw [List.size_toArray]; omega)
    rw [PySem.W.krv_pick]
    refine ⟨.ref _, _, I5.laid (t' := s4.toks) (o := .lst xs.reverse) (fun b ob q => Heap.get?_push_of_some _ q) (Nat.le_refl _) ?_, rfl, q _ (I5.hok.fresh (Nat.le_refl _))⟩
    exact ⟨by rw [List.length_reverse]; exact hz, _, 0, r.reverse, Heap.get?_push_size _ rfl⟩
  · obtain ⟨its, r, ht, hz⟩ := I5.tuple hx
    have hlen := r.length
    cases pl
    cases pu
    refine tail_any (ops := [.ref a, .ref s4.heap.objs.size]) ht.typeIs (PyProof.Rows.slot_tuple_getitem.lookup) ?_ (by with_unfolding_all rfl)
    refine getItem_tuple_rev ht (Heap.IsSliceOf.new _ .none .none vs) ps ?_ (by rw [List.size_toArray]; omega)
    refine ⟨.ref _, _, I5.laid (t' := s4.toks) (o := .tup xs.reverse) (fun b ob q => Heap.get?_push_of_some _ q) (Nat.le_refl _) ?_, rfl, q _ (I5.hok.fresh (Nat.le_refl _))⟩
    exact ⟨by rw [List.length_reverse]; exact hz, _, r.reverse, IsTup.new _ _⟩
/-- x[::-1] -/
def wRev (w : W) : W := fun ρ Q X => w ρ (fun r => r.wk fun x => match x with
  | .list xs => Q (.fr xs.reverse)
  | .tuple xs => Q (.d (.tuple xs.reverse))
  | _ => False) X
theorem DMs.reverse {K : PySem.W.Frag} {M : Ad} {H : Hp} : ∀ {vs : List V} {ds : List PyData}, DMs K M H vs ds → DMs K M H vs.reverse ds.reverse
  | _, _, .nil => .nil
  | _, _, .cons h r => by
    rw [List.reverse_cons, List.reverse_cons]
    exact (DMs.reverse r).append (.cons h .nil)
theorem ev_rev {e : Expr} {w : W} {k : Nat} {p1 p2 p3 pos : Pos} (he : PE X e (lift (pm X T) E w)) : PE X (.Subscript e (.Slice none none (some (.UnaryOp .USub (.Constant (.int 1) k p1) p2)) p3) pos) (lift (pm X T) E (wRev w)) := by
  refine PEimp (pe_revS he) fun σ H Q ⟨H0, M0, M, ρ, XW, Q3, re, xo, q, k⟩ => ?_
  refine ⟨H0, M0, M, ρ, XW, _, re, xo, q, fun r v H1 qr e1 t1 rr => ?_⟩
  obtain ⟨x, hx, qx⟩ := rr.weak qr
  cases x with
  | list xs =>
    obtain ⟨a, vs, rfl, l, hd⟩ := hx.lst
    exact ⟨a, vs, rfl, .inl ⟨SqL.of l, fun p np => k _ _ _ qx (e1.trans (ext_new np)) (tabs_new t1 np) (lst_new e1 np hd.reverse)⟩⟩
  | tuple xs =>
    obtain ⟨a, vs, rfl, l, hd⟩ := hx.tup
    exact ⟨a, vs, rfl, .inr ⟨l.sq, fun p np => k _ _ _ qx (e1.trans (ext_new np)) (tabs_new t1 np) (tup_new re.mdom e1 np hd.reverse)⟩⟩
  | _ => exact qx.elim
end
end T3
set_option linter.all false
set_option maxRecDepth 100000
set_option maxHeartbeats 2000000
set_option Elab.async false
/-! T33: word = told / try: call() / except C as e: suite (that stores word) / return word. -/
namespace T3
open L2 LamX PySem PyProof.Rows PySem.Spec
theorem word_suite {X : Cx} {T : List (Addr × Str)} {Ng : List Str} {x a wn en q told ck : Str} {sg : Scope} {g CK : Addr} {cdg : Value} {w i j : Nat} {b₀ : Stmt} {suite : List Stmt} {p1 p2 p3 p4 p5 p6 p7 p8 p9 p10 p11 : Pos} {wd : Exc → Option Str} {ws : Addr → Exc → WS}
    (nd : Ng.Nodup) (hw : Ng[w]? = some wn) (hw0 : w ≠ 0) (hiw : i ≠ w) (hloc : Loc sg wn) (hdw : (wn == ("__debug__" : Str)) = false) (hcw : (wn == ("__classdict__" : Str)) = false) (hf : ∀ (s : Shared) (H : Hp), (wCx X Ng x sg g cdg s H).fn wn = true ∨ sg.names.lookup wn = some .local)
    (hi : Ng[i]? = some en) (hln : ∀ (s : Shared) (H : Hp), (wCx X Ng x sg g cdg s H).env.kindOf en = some .local) (hge : sg.names.lookup ck = some .globalImplicit) (hde : (ck == ("__debug__" : Str)) = false) (hck : X.mg ck = some (.ref CK))
    (h0 : ∀ f : Addr, (L2.start Ng [V.ref f])[0]? = some (some (V.ref f)))
    (hsu : ∀ (s : Shared) (H : Hp) (a : Addr) (oe : Obj) (cls : Value) (d : Option Addr) (pn : List (Addr × Obj)), Zc cls d oe → (∃ vs, oe.data = .fields vs) → ∀ y, Caught (pm X T) wd y cls d → PSs ((wCx X Ng x sg g cdg s H).suite a ((a, oe) :: pn)) (b₀ :: suite) (liftS (pm X T) C8.E0 (ws a y)))
    (hex : ∀ y z C, wd y = some z → X.mg y.name = some (.ref C) → PySem.W.exmOne X.K (.ref C) (.ref CK) = some true) (harg : ∀ y z, wd y = some z → y.arg = none)
    (hpure : ∀ (a : Addr) (y : Exc) (z : Str), wd y = some z → ws a y { nx := fun ρ => ρ[w]? = some (some (.d (.str z))), rt := fun _ => False } (errR Ng.length i a) noX) :
    GivesTo X Ng x sg g cdg [.Assign [.Name wn p1] (.Constant (.str told) j p2) p3, .Try [.Expr (.Call (.Name a p4) [] [] p5) p6] [.ExceptHandler (some (.Name ck p7)) (some en) (b₀ :: suite) p8] [] [] p9, .Return (some (.Name wn p10)) p11] a q (TWord (pm X T) told wd) := by
  intro f c' s H Q tl act hc ⟨Ew, hEw, h⟩
  have hv : Vis sg wn := hloc.elim .inl fun z => .inr (.inl z)
  have hwl : w < Ng.length := (List.getElem?_eq_some_iff.mp hw).1
  refine ⟨_, pss_cons (ps_set (X := wCx X Ng x sg g cdg s H) (i := w) nd hw hloc pe_str (by rfl) (hf s H)) (pss_cons (ps_try_as (X := wCx X Ng x sg g cdg s H) (c := .ref CK) (i := i)
      (tb := fun W D σ H => ∃ Ech : XK, (∀ cls d σ' H', Ech cls d H' → W cls d σ' H') ∧ σ[0]? = some (some (.ref f)) ∧ H c' = some (CodeO c' q) ∧ tl Ech H (fun _ H' => D.nx σ H'))
      (ts := tSuite (pm X T) Ng.length wd ws) rfl rfl nd hi (hln s H) ⟨hge, hde, .inl hck⟩ L2.takes0 (fun W pn xe tk _ => ?_) (fun a oe cls d pn hz hf => pss_suite rfl (hsu s H a oe cls d pn hz hf))) (pss_one (ps_ret (pe_var (i := w) hw hv hdw hcw)))), ?_⟩
  · refine ⟨fun pins s' σ H' D I h' => ?_⟩
    obtain ⟨Ech, hW, h1, h2, h3⟩ := h'
    exact (pss_one (ps_expr (act W pn xe Ech p4 p5 tk hW))).run pins s' σ H' D I ⟨h1, h2, h3⟩
  · have e0 : ((L2.start Ng [V.ref f]).set w (some (V.str told)))[0]? = some (some (V.ref f)) := by
      rw [List.getElem?_set_ne hw0]
      exact h0 f
    refine ⟨Ew, fun cls d σ' H' he => ?_, e0, hc, ?_⟩
    · obtain ⟨y, z, hz, rx, t', mono⟩ := hEw cls d H' he
      have rx' := rx
      obtain ⟨C, g1, g2, _⟩ := rx'
      subst g2
      refine ⟨true, hex y z C hz g1, fun _ a' ha' hl => ?_, fun h => by cases h⟩
      refine ⟨y, caught_of hz (harg y z hz) rx, H', fun _ => False, fun _ => False, errR Ng.length i a', noX, _, re_err t' (by simpa using hl), hpure a' y z hz, fun ρ2 M2 H2 σ2 q re2 => ?_, fun _ _ _ _ q _ => q.elim, fun _ _ _ _ q _ => q.elim, fun _ _ _ _ q => False.elim q, fun _ _ _ q => False.elim q⟩
      obtain ⟨v, h1, h2⟩ := re2.slot w _ q
      cases h2
      exact ⟨.str z, by rw [List.getElem?_set_ne hiw]; exact h1, mono H2 re2.ext re2.tabs⟩
    · have e : (fun (_ : V) (H' : Hp) => Q (.str told) H') = fun (_ : V) (H' : Hp) => ∃ v, ((L2.start Ng [V.ref f]).set w (some (V.str told)))[w]? = some (some v) ∧ Q v H' := by
        funext _ H'
        have hl : w < (L2.start Ng [V.ref f]).length := by
          unfold L2.start
          rw [List.length_append, List.length_map, List.length_replicate]
          show w < 1 + (Ng.length - 1)
          omega
        rw [List.getElem?_set_self hl]
        exact propext ⟨fun h => ⟨_, rfl, h⟩, fun ⟨v, e, h⟩ => by
          cases e
          exact h⟩
      rw [e] at h
      exact h
end T3
set_option linter.all false
set_option maxRecDepth 100000
set_option maxHeartbeats 400000
set_option Elab.async false
/-! T34: what may be shown; parts of lists; filtered comprehensions. -/
namespace T3
open L2 LamX PySem PyProof.Rows PySem.Spec
/-- short leaves, no more than n of them -/
structure Sho (n : Nat) (x : PyData) : Prop where
  lv : PyData.leavesShort 13 x = true
  sh : x.showable = true
  bk : x.bulk ≤ n
theorem sho_fin : ∀ i : Fin 256, (PyData.shown (.int (i.val : Int))).length ≤ 13 ∧ (PyData.int (i.val : Int)).showable = true := by decide +kernel
theorem sho_int {i : Int} (h0 : 0 ≤ i) (h1 : i < 256) : Sho 0 (.int i) := by
  have z := sho_fin ⟨i.toNat, by omega⟩
  have e : ((i.toNat : Nat) : Int) = i := Int.toNat_of_nonneg h0
  simp only [e] at z
  exact ⟨by rw [PyData.leavesShort, decide_eq_true z.1], z.2, Nat.le_refl _⟩
theorem sho_non : Sho 0 .none := ⟨by rw [PyData.leavesShort], by rw [PyData.showable], Nat.le_refl _⟩
theorem sho_bool (b : Bool) : Sho 0 (.bool b) := ⟨by rw [PyData.leavesShort], by rw [PyData.showable], Nat.le_refl _⟩
theorem Sho.mono {m n : Nat} {x : PyData} (h : Sho m x) (hn : m ≤ n) : Sho n x := ⟨h.lv, h.sh, Nat.le_trans h.bk hn⟩
theorem sho_all {n : Nat} : ∀ {xs : List PyData}, (∀ x ∈ xs, Sho n x) → PyData.leavesShortAll 13 xs = true ∧ PyData.showableAll xs = true ∧ PyData.bulkAll xs ≤ (n + 1) * xs.length
  | [], _ => ⟨by rw [PyData.leavesShortAll], by rw [PyData.showableAll], by simp [PyData.bulkAll]⟩
  | x :: xs, h => by
    obtain ⟨h1, h2, h3⟩ := sho_all (xs := xs) fun y hy => h y (List.mem_cons_of_mem _ hy)
    have hx := h x List.mem_cons_self
    refine ⟨?_, ?_, ?_⟩
    · rw [PyData.leavesShortAll, h1, hx.lv]
      rfl
    · rw [PyData.showableAll, h2, hx.sh]
      rfl
    · rw [PyData.bulkAll, List.length_cons, Nat.mul_add]
      have := hx.bk
      omega
theorem sho_tup {n m : Nat} {xs : List PyData} (h : ∀ x ∈ xs, Sho n x) (hm : (n + 1) * xs.length ≤ m) : Sho m (.tuple xs) := by
  obtain ⟨h1, h2, h3⟩ := sho_all h
  exact ⟨by rw [PyData.leavesShort, h1], by rw [PyData.showable, h2], by rw [PyData.bulk]; omega⟩
theorem sho_lst {n m : Nat} {xs : List PyData} (h : ∀ x ∈ xs, Sho n x) (hm : (n + 1) * xs.length ≤ m) : Sho m (.list xs) := by
  obtain ⟨h1, h2, h3⟩ := sho_all h
  exact ⟨by rw [PyData.leavesShort, h1], by rw [PyData.showable, h2], by rw [PyData.bulk]; omega⟩
/-- what repr asks -/
abbrev RepOk (x : PyData) : Prop := SeqAt.shaped x = true ∧ x.showable = true ∧ x.shown.length ≤ sizeLine
theorem Sho.rep {n k : Nat} {x : PyData} (h : Sho n x) (l : Lay k x) (hn : n ≤ 5000) (hk : k ≤ 64) : RepOk x := by
  refine ⟨l.sh hk, h.sh, PyData.shown_fits_bulk (B := 13) (by decide) (by decide) h.lv ?_⟩
  have := h.bk
  omega
theorem rep_bool (b : Bool) : RepOk (.bool b) := (sho_bool b).rep (lay_b b) (by omega) (by omega)
theorem rep_non : RepOk .none := sho_non.rep lay_n (by omega) (by omega)
/-- comprehensions that keep some of ints -/
theorem made_some {S : PyData → Option PyData → Prop} {P : Int → Prop} (hS : ∀ (i : Int) o, S (.int i) o → o = none ∨ (o = some (.int i) ∧ P i)) : ∀ {xs ys : List PyData}, Made S xs ys → ∀ is : List Int, xs = is.map .int → ∃ js : List Int, js.Sublist is ∧ ys = js.map .int ∧ ∀ j ∈ js, P j
  | _, _, .nil, is, e => ⟨[], List.nil_sublist _, rfl, fun _ h => by cases h⟩
  | _, _, .keep h r, is, e => by
    cases is with
    | nil => cases e
    | cons j is =>
      injection e with e1 e2
      subst e1
      obtain ⟨js, h1, rfl, h3⟩ := made_some hS r is e2
      rcases hS _ _ h with z | ⟨z, hp⟩
      · cases z
      · cases z
        exact ⟨j :: js, h1.cons_cons j, rfl, fun k hk => (List.mem_cons.mp hk).elim (fun e => by rw [e]; exact hp) (h3 k)⟩
  | _, _, .drop h r, is, e => by
    cases is with
    | nil => cases e
    | cons j is =>
      injection e with e1 e2
      obtain ⟨js, h1, h2, h3⟩ := made_some hS r is e2
      exact ⟨js, h1.cons j, h2, h3⟩
/-- [x for x in is if p x] -/
theorem made_fint {p : Int → Bool} {xs ys : List PyData} (h : Made (fun x o => ∃ i : Int, x = .int i ∧ o = if p i = true then some x else none) xs ys) : ∀ is : List Int, xs = is.map .int → ys = (is.filter p).map .int := by
  induction h with
  | nil =>
    intro is e
    cases is with
    | nil => rfl
    | cons a b => cases e
  | keep h r ih =>
    intro is e
    cases is with
    | nil => cases e
    | cons a b =>
      injection e with e1 e2
      obtain ⟨i, h1, h2⟩ := h
      rw [e1] at h1
      cases h1
      by_cases c : p a = true
      · rw [if_pos c] at h2
        cases h2
        rw [List.filter_cons_of_pos c, ih b e2, List.map_cons, e1]
      · rw [if_neg c] at h2
        cases h2
  | drop h r ih =>
    intro is e
    cases is with
    | nil => cases e
    | cons a b =>
      injection e with e1 e2
      obtain ⟨i, h1, h2⟩ := h
      rw [e1] at h1
      cases h1
      by_cases c : p a = true
      · rw [if_pos c] at h2
        cases h2
      · rw [List.filter_cons_of_neg c, ih b e2]
/-! ### parts -/
theorem cut_mid {α : Type} (xs : List α) (a b : Nat) : cut xs (some (a : Int)) (some (b : Int)) = (xs.take b).drop a := by
  unfold T3.cut
  rw [HT.sIx_nat, HT.sIx_nat]
  rw [← List.drop_take]
  by_cases h : a ≤ xs.length
  · rw [Nat.min_eq_left h]
    by_cases h2 : b ≤ xs.length
    · rw [Nat.min_eq_left h2]
    · rw [Nat.min_eq_right (by omega), List.take_length, List.take_of_length_le (by omega)]
  · rw [Nat.min_eq_right (by omega), List.drop_of_length_le (by rw [List.length_take]; omega), List.drop_of_length_le (by rw [List.length_take]; omega)]
theorem cut_init {α : Type} (xs : List α) : cut xs none (some (-1)) = xs.dropLast := by
  unfold T3.cut
  have e2 : HT.sIx xs.length xs.length (some (-1)) = xs.length - 1 := by
    show (if (-1 : Int) < 0 then ((-1 : Int) + ((xs.length : Nat) : Int)).toNat else min (-1 : Int).toNat xs.length) = _
    rw [if_pos (by decide)]
    omega
  rw [e2, HT.sIx_none, List.drop_zero, Nat.sub_zero, List.dropLast_eq_take]
/-- the last k -/
def lastN {α : Type} (k : Nat) (l : List α) : List α := l.drop (l.length - k)
theorem lastN_len {α : Type} (k : Nat) (l : List α) : (lastN k l).length = min k l.length := by
  unfold lastN
  rw [List.length_drop]
  omega
theorem lastN_lastN {α : Type} {j k : Nat} (h : j ≤ k) (l : List α) : lastN j (lastN k l) = lastN j l := by
  unfold lastN
  rw [List.drop_drop, List.length_drop]
  congr 1
  omega
theorem lastN_snoc {α : Type} (k : Nat) (l : List α) (x : α) : lastN (k + 1) (l ++ [x]) = lastN k l ++ [x] := by
  unfold lastN
  rw [List.length_append, List.length_singleton]
  have e : l.length + 1 - (k + 1) = l.length - k := by omega
  rw [e, List.drop_append_of_le_length (by omega)]
theorem lastN_app_sub {α : Type} (k : Nat) (p l : List α) : (lastN k l).Sublist (lastN k (p ++ l)) := by
  unfold lastN
  by_cases h : l.length ≤ k
  · have e : l.length - k = 0 := by omega
    rw [e, List.drop_zero, List.length_append]
    rw [List.drop_append_of_le_length (by omega)]
    exact List.sublist_append_right _ _
  · rw [List.length_append]
    have e : p.length + l.length - k = p.length + (l.length - k) := by omega
    rw [e, ← List.drop_drop, List.drop_left]
    exact List.Sublist.refl _
theorem cut_lastN {α : Type} (xs : List α) {i : Int} {k : Nat} (h : (if i < 0 then (0 : Int) else i) = ((xs.length - k : Nat) : Int)) : cut xs (some (if i < 0 then (0 : Int) else i)) none = lastN k xs := by
  rw [h, cut_from]
  rfl
end T3
set_option linter.all false
set_option maxRecDepth 100000
set_option maxHeartbeats 2000000
set_option Elab.async false
/-! T35: dicts of the frame's own and dicts that are data: d[k], k in d, d[k] = v. -/
namespace T3
open L2 LamX PySem PyProof.Rows PySem.Spec

def keyOf : PyData → Option Key
  | .int i => some (.inl i)
  | .str x => some (.inr x)
  | _ => none
def valD (kvs : List (Key × PyData)) (k : Key) : Option PyData := (kvs.find? fun kv => decide (kv.1 = k)).map (·.2)
def putD (kvs : List (Key × PyData)) (k : Key) (v : PyData) : List (Key × PyData) :=
  if (kvs.any fun kv => decide (kv.1 = k)) = true then kvs.map (fun kv => if kv.1 = k then (kv.1, v) else kv) else kvs ++ [(k, v)]
theorem kD_inj {a b : Key} (h : kD a = kD b) : a = b := by
  cases a <;> cases b <;> simp_all [kD]
theorem dictD_inj : ∀ {a b : List (Key × PyData)}, dictD a = dictD b → a = b
  | [], [], _ => rfl
  | [], _ :: _, h => by cases h
  | _ :: _, [], h => by cases h
  | (k, x) :: a, (l, y) :: b, h => by
    unfold dictD at h
    rw [List.map_cons, List.map_cons] at h
    injection h with h1 h2
    injection h1 with h3 h4
    have h5 := dictD_inj (a := a) (b := b) h2
    have h6 := kD_inj h3
    simp only at h4 h6
    subst h4 h5 h6
    rfl
section
variable {K : PySem.W.Frag} {M : Ad} {H : Hp}
theorem DKs.val (k : Key) : ∀ {kws : List (Key × V)} {kvs : List (Key × PyData)}, DKs K M H kws kvs → (valV kws k = none ∧ valD kvs k = none) ∨ ∃ v d, valV kws k = some v ∧ valD kvs k = some d ∧ DM K M H v d
  | _, _, .nil => .inl ⟨rfl, rfl⟩
  | _, _, .cons (k := l) (v := v) (d := d) h r => by
    by_cases e : l = k
    · exact .inr ⟨v, d, by simp [valV, List.find?_cons, e], by simp [valD, List.find?_cons, e], h⟩
    · have z := DKs.val k r
      have e1 : ∀ r, valV ((l, v) :: r) k = valV r k := fun r => by simp [valV, List.find?_cons, e]
      have e2 : ∀ r, valD ((l, d) :: r) k = valD r k := fun r => by simp [valD, List.find?_cons, e]
      rw [e1, e2]
      exact z
theorem DKs.any (k : Key) : ∀ {kws : List (Key × V)} {kvs : List (Key × PyData)}, DKs K M H kws kvs → (kws.any fun kv => decide (kv.1 = k)) = (kvs.any fun kv => decide (kv.1 = k))
  | _, _, .nil => rfl
  | _, _, .cons h r => by rw [List.any_cons, List.any_cons, DKs.any k r]
theorem DKs.map {v : V} {d : PyData} (k : Key) (h : DM K M H v d) : ∀ {kws : List (Key × V)} {kvs : List (Key × PyData)}, DKs K M H kws kvs → DKs K M H (kws.map fun kv => if kv.1 = k then (kv.1, v) else kv) (kvs.map fun kv => if kv.1 = k then (kv.1, d) else kv)
  | _, _, .nil => .nil
  | _, _, .cons (k := l) g r => by
    rw [List.map_cons, List.map_cons]
    by_cases e : l = k
    · rw [if_pos e, if_pos e]
      exact .cons h (DKs.map k h r)
    · rw [if_neg e, if_neg e]
      exact .cons g (DKs.map k h r)
theorem DKs.snoc {v : V} {d : PyData} (k : Key) (h : DM K M H v d) : ∀ {kws : List (Key × V)} {kvs : List (Key × PyData)}, DKs K M H kws kvs → DKs K M H (kws ++ [(k, v)]) (kvs ++ [(k, d)])
  | _, _, .nil => .cons h .nil
  | _, _, .cons g r => .cons g (DKs.snoc k h r)
theorem DKs.put {kws : List (Key × V)} {kvs : List (Key × PyData)} {v : V} {d : PyData} (k : Key) (r : DKs K M H kws kvs) (h : DM K M H v d) : DKs K M H (putK kws k v) (putD kvs k d) := by
  unfold putK putD
  rw [r.any k]
  split
  · exact r.map k h
  · exact r.snoc k h
theorem DKs.length : ∀ {kws : List (Key × V)} {kvs : List (Key × PyData)}, DKs K M H kws kvs → kws.length = kvs.length
  | _, _, .nil => rfl
  | _, _, .cons _ r => by rw [List.length_cons, List.length_cons, DKs.length r]
theorem key_of {t : PyData} {k : Key} {v : V} (e : keyOf t = some k) (h : WR K M H v t) : v = kV k := by
  cases t with
  | int i =>
    cases e
    exact h.int
  | str i =>
    cases e
    exact h.str
  | _ => cases e
end
/-- d[k], d a dict, k there -/
def wDGet (wa wb : W) : W := fun ρ Q X => wa ρ (fun r => r.wk fun x => wb ρ (fun s => s.wk fun t => ∃ kvs k y, x = .dict (dictD kvs) ∧ keyOf t = some k ∧ valD kvs k = some y ∧ Q (.d y)) X) X
/-- k in d -/
def wDIn (wb wa : W) : W := fun ρ Q X => wb ρ (fun s => s.wk fun t => wa ρ (fun r => r.wk fun x => ∃ kvs k, x = .dict (dictD kvs) ∧ keyOf t = some k ∧ Q (.d (.bool (valD kvs k).isSome))) X) X
def wDNotIn (wb wa : W) : W := fun ρ Q X => wb ρ (fun s => s.wk fun t => wa ρ (fun r => r.wk fun x => ∃ kvs k, x = .dict (dictD kvs) ∧ keyOf t = some k ∧ Q (.d (.bool (!(valD kvs k).isSome)))) X) X
/-- d[k] = v, d the frame's own -/
def wDPut (i : Nat) (wi wv : W) : WS := fun D ρ X => wv ρ (fun r => r.st fun y => ∃ kvs, ρ[i]? = some (some (.dk kvs)) ∧ wi ρ (fun s => s.wk fun t => ∃ k, keyOf t = some k ∧ kvs.length < sizeLine ∧ D.nx (ρ.set i (some (.dk (putD kvs k y))))) X) X
section
variable {X : Cx} {T : List (Addr × Str)} {E : XK} {e a b : Expr} {pos p : Pos}
theorem ev_dget {wa wb : W} (hu : X.A.units + 64 < cLine) (ha : PE X a (lift (pm X T) E wa)) (hb : PE X b (lift (pm X T) E wb)) (hs : NoSl b) : PE X (.Subscript a b pos) (lift (pm X T) E (wDGet wa wb)) := by
  refine PEimp (pe_dget (by omega) ha hb hs) fun σ H Q ⟨H0, M0, M, ρ, XW, Q3, re, xo, q, k⟩ => ?_
  refine ⟨H0, M0, M, ρ, XW, _, re, xo, q, fun r v H1 qr e1 t1 rr => ?_⟩
  obtain ⟨x, hx, qx⟩ := rr.weak qr
  refine ⟨H0, M0, M, ρ, XW, _, re.grow e1 t1, xo.grow e1, qx, fun s u H2 qs e2 t2 rs => ?_⟩
  obtain ⟨t, ht, kvs, k', y, rfl, hk, hv, qy⟩ := rs.weak qs
  obtain ⟨kvs', c, kws, e3, rfl, hc, hd⟩ := (hx.ext e2).dct
  cases dictD_inj e3
  have hu := key_of hk ht
  subst hu
  rcases hd.val k' with ⟨_, z⟩ | ⟨w, d, h1, h2, h3⟩
  · rw [hv] at z
    cases z
  · rw [hv] at h2
    cases h2
    exact ⟨c, w, rfl, by rw [← h1]; exact DGet.k hc, k (.d y) w H2 qy (e1.trans e2) t2 h3⟩
theorem ec_din {wa wb : W} (hu : X.A.units + 64 < cLine) (hb : PE X b (lift (pm X T) E wb)) (ha : PE X a (lift (pm X T) E wa)) (hm : behindInMarks .In a = false := by rfl) : PE X (.Compare b [.In] [a] pos) (lift (pm X T) E (wDIn wb wa)) := by
  refine PEimp (pe_cmp (pc_din (by omega) hb ha) hm) fun σ H Q ⟨H0, M0, M, ρ, XW, Q3, re, xo, q, k⟩ => ?_
  refine ⟨H0, M0, M, ρ, XW, _, re, xo, q, fun r v H1 qr e1 t1 rr => ?_⟩
  obtain ⟨t, ht, qt⟩ := rr.weak qr
  refine ⟨H0, M0, M, ρ, XW, _, re.grow e1 t1, xo.grow e1, qt, fun s u H2 qs e2 t2 rs => ?_⟩
  obtain ⟨x, hx, kvs, k', rfl, hk, qy⟩ := rs.weak qs
  obtain ⟨kvs', c, kws, e3, rfl, hc, hd⟩ := hx.dct
  cases dictD_inj e3
  have hu := key_of hk ht
  subst hu
  rcases hd.val k' with ⟨z1, z2⟩ | ⟨w, d, h1, h2, h3⟩
  · refine ⟨c, none, rfl, by rw [← z1]; exact DGet.k hc, ?_⟩
    rw [z2] at qy
    exact k _ _ H2 qy (e1.trans e2) t2 (.bl _)
  · refine ⟨c, some w, rfl, by rw [← h1]; exact DGet.k hc, ?_⟩
    rw [h2] at qy
    exact k _ _ H2 qy (e1.trans e2) t2 (.bl _)
theorem ec_dnotin {wa wb : W} (hu : X.A.units + 64 < cLine) (hb : PE X b (lift (pm X T) E wb)) (ha : PE X a (lift (pm X T) E wa)) (hm : behindInMarks .NotIn a = false := by rfl) : PE X (.Compare b [.NotIn] [a] pos) (lift (pm X T) E (wDNotIn wb wa)) := by
  refine PEimp (pe_cmp (pc_dnotin (by omega) hb ha) hm) fun σ H Q ⟨H0, M0, M, ρ, XW, Q3, re, xo, q, k⟩ => ?_
  refine ⟨H0, M0, M, ρ, XW, _, re, xo, q, fun r v H1 qr e1 t1 rr => ?_⟩
  obtain ⟨t, ht, qt⟩ := rr.weak qr
  refine ⟨H0, M0, M, ρ, XW, _, re.grow e1 t1, xo.grow e1, qt, fun s u H2 qs e2 t2 rs => ?_⟩
  obtain ⟨x, hx, kvs, k', rfl, hk, qy⟩ := rs.weak qs
  obtain ⟨kvs', c, kws, e3, rfl, hc, hd⟩ := hx.dct
  cases dictD_inj e3
  have hu := key_of hk ht
  subst hu
  rcases hd.val k' with ⟨z1, z2⟩ | ⟨w, d, h1, h2, h3⟩
  · refine ⟨c, none, rfl, by rw [← z1]; exact DGet.k hc, ?_⟩
    rw [z2] at qy
    exact k _ _ H2 qy (e1.trans e2) t2 (.bl _)
  · refine ⟨c, some w, rfl, by rw [← h1]; exact DGet.k hc, ?_⟩
    rw [h2] at qy
    exact k _ _ H2 qy (e1.trans e2) t2 (.bl _)
theorem es_dput {i : Nat} {wi wv : W} {v : Expr} {spos : Pos} (hu : X.A.units + 64 < cLine) (hv : PE X v (lift (pm X T) E wv)) (ho : PE X a (tVar i)) (hk : PE X b (lift (pm X T) E wi)) (hs : swapsWith v (some (.Subscript a b spos)) pos.line X.env = pure false := by rfl) :
    PS X (.Assign [.Subscript a b spos] v pos) (liftS (pm X T) E (wDPut i wi wv)) := by
  refine PSimp (ps_dput (by omega) ho hk hv hs) fun D σ H ⟨H0, M0, M, ρ, XW, D3, re, q, k⟩ => ?_
  refine ⟨H0, M0, M, ρ, XW, _, re, k.xo re, q, fun r u H1 qr e1 t1 rr => ?_⟩
  obtain ⟨y, hy, kvs, hx, qy⟩ := rr.strong re.mdom qr
  have re1 := re.grow e1 t1
  obtain ⟨v', h1, p, kws, rfl, m, hp, hd⟩ := re1.slot i _ hx
  refine ⟨_, h1, H0, M0, M, ρ, XW, _, re1, k.xo re1, qy, fun s w H2 qs e2 t2 rs => ?_⟩
  obtain ⟨t, ht, k', hkk, hl, qt⟩ := rs.weak qs
  have re2 := re1.grow e2 t2
  have hp2 : H2 p = some (.dK kws) := e2 _ _ hp (fun ps q => by cases q)
  have hw := key_of hkk ht
  subst hw
  exact ⟨p, _, rfl, DPut.k hp2 (by rw [hd.length]; exact hl), k.nx _ M _ σ qt (re2.updK hx h1 ((DKs.fm (.of e2) hd).put k' (DM.fm (.of e2) hy)))⟩
end
/-! what a look-up gives behind a store -/
theorem valD_put (kvs : List (Key × PyData)) (k j : Key) (y : PyData) : valD (putD kvs k y) j = if j = k then some y else valD kvs j := by
  have hany : ∀ (kvs : List (Key × PyData)), (kvs.any fun kv => decide (kv.1 = k)) = (valD kvs k).isSome := fun kvs => by
    induction kvs with
    | nil => rfl
    | cons p r ih =>
      rw [List.any_cons, ih]
      by_cases e : p.1 = k <;> simp [valD, List.find?_cons, e]
  unfold putD
  by_cases c : (kvs.any fun kv => decide (kv.1 = k)) = true
  · rw [if_pos c]
    have c2 := hany kvs
    rw [c] at c2
    clear c hany
    induction kvs with
    | nil => cases c2
    | cons p r ih =>
      rw [List.map_cons]
      by_cases e : p.1 = k
      · rw [if_pos e]
        by_cases ej : j = k
        · subst ej
          simp [valD, List.find?_cons, e]
        · have e3 : p.1 ≠ j := fun z => ej (by rw [← z, e])
          by_cases cr : (valD r k).isSome = true
          · have z := ih cr.symm
            rw [if_neg ej] at z ⊢
            have l1 : ∀ (q : PyData) (r : List (Key × PyData)), valD ((p.1, q) :: r) j = valD r j := fun q r => by simp [valD, List.find?_cons, e3]
            rw [l1, z]
            exact (l1 p.2 r).symm
          · rw [if_neg ej]
            have hr : r.map (fun kv => if kv.1 = k then (kv.1, y) else kv) = r := by
              refine (List.map_congr_left fun q hq => ?_).trans (List.map_id r)
              by_cases eq : q.1 = k
              · exfalso
                refine cr ?_
                unfold valD
                cases hf : r.find? fun kv => decide (kv.1 = k) with
                | none =>
                  rw [List.find?_eq_none] at hf
                  have := hf q hq
                  simp [eq] at this
                | some _ => rfl
              · rw [if_neg eq]
                rfl
            rw [hr]
            simp [valD, List.find?_cons, e3]
      · rw [if_neg e]
        have c3 : true = (valD r k).isSome := by
          rw [c2]
          simp [valD, List.find?_cons, e]
        have z := ih c3
        by_cases e4 : p.1 = j
        · have ej : j ≠ k := fun w => e (by rw [e4, w])
          rw [if_neg ej]
          simp [valD, List.find?_cons, e4]
        · have l1 : ∀ (r : List (Key × PyData)), valD (p :: r) j = valD r j := fun r => by simp [valD, List.find?_cons, e4]
          rw [l1, l1]
          exact z
  · rw [if_neg c]
    have c2 := hany kvs
    clear hany
    induction kvs with
    | nil =>
      by_cases ej : j = k
      · subst ej
        simp [valD]
      · have : k ≠ j := fun z => ej z.symm
        simp [valD, ej, this]
    | cons p r ih =>
      rw [List.any_cons, Bool.or_eq_true, not_or] at c
      have e : p.1 ≠ k := by simpa using c.1
      by_cases e4 : p.1 = j
      · have ej : j ≠ k := fun w => e (by rw [e4, w])
        rw [if_neg ej]
        simp [valD, List.find?_cons, e4]
      · have l1 : ∀ (r : List (Key × PyData)), valD (p :: r) j = valD r j := fun r => by simp [valD, List.find?_cons, e4]
        rw [List.cons_append, l1, l1]
        refine ih c.2 ?_
        have hany2 : (r.any fun kv => decide (kv.1 = k)) = (valD r k).isSome := by
          rw [List.any_cons] at c2
          have l2 : valD (p :: r) k = valD r k := by simp [valD, List.find?_cons, e]
          rw [l2] at c2
          rw [← c2]
          simp [e]
        exact hany2
theorem putD_len (kvs : List (Key × PyData)) (k : Key) (y : PyData) : (putD kvs k y).length ≤ kvs.length + 1 := by
  unfold putD
  split <;> simp
end T3
set_option linter.all false
set_option maxRecDepth 100000
set_option maxHeartbeats 2000000
set_option Elab.async false
/-! T36: min and max of a list of alike data (whole numbers, rows of them). -/
namespace T3
open L2 LamX PySem PyProof.Rows PySem.Spec

def bestD (mx : Bool) (d : PyData) (ds : List PyData) : PyData := if mx = true then W.maxD d ds else W.minD d ds
def rBest (K : PySem.W.Frag) (mx : Bool) : List V → Hp → VK → Prop := fun vs H Q => ∃ (a : Addr) (xs : List V) (d : PyData) (ds : List PyData), vs = [V.ref a] ∧ SqL K H a xs ∧ DpAll K H xs (d :: ds) ∧ PyData.canLayAll0 (d :: ds) = true ∧ W.AlikeAll (d :: ds) ∧ PyData.depthAll (d :: ds) ≤ 60 ∧
  ∀ (i : Nat) (v : V), xs[i]? = some v → (d :: ds)[i]? = some (bestD mx d ds) → Q v H
section
variable {X : Cx} {T : List (Addr × Str)}
theorem canLay_at : ∀ {ds : List PyData} {i : Nat} {d : PyData}, PyData.canLayAll0 ds = true → ds[i]? = some d → d.canLay0 = true
  | [], _, _, _, h => by simp at h
  | x :: ds, 0, d, c, h => by
    rw [PyData.canLayAll0, Bool.and_eq_true] at c
    have e := Option.some.inj (by simpa using h)
    rw [← e]
    exact c.1
  | x :: ds, i + 1, d, c, h => by
    rw [PyData.canLayAll0, Bool.and_eq_true] at c
    exact canLay_at c.2 (by simpa using h)
theorem best_item {h h' : Heap} {us : List Value} {ds : List PyData} {as bs : List Addr} {i : Nat} {u : Value} {z : PyData} (r : ReadsAll h us ds as) (c : PyData.canLayAll0 ds = true) (hu : us[i]? = some u) (rz : Reads h' u z bs) (hk : ∀ b o, h.get? b = some o → h'.get? b = some o) : ds[i]? = some z := by
  obtain ⟨cs, r1, hi, _, _⟩ := W.readsAll_at r i u hu
  have e : ds[i]? = some (ds.getD i .none) := by
    rw [List.getD_eq_getElem?_getD, List.getElem?_eq_getElem hi]
    rfl
  rw [e]
  exact congrArg some (SeqAt.Reads.unique _ _ _ _ _ (canLay_at c e) (W.reads_keeps hk r1) rz)
theorem vals_at : ∀ {xs : List V} {us : List Value} {i : Nat} {u : Value}, Vals xs us → us[i]? = some u → ∃ v, xs[i]? = some v ∧ RelV v u
  | _, _, _, _, .nil, h => by simp at h
  | _, _, 0, _, .cons r _, h => by
    have e := Option.some.inj (by simpa using h)
    subst e
    exact ⟨_, rfl, r⟩
  | _, _, i + 1, u, .cons _ rs, h => by
    obtain ⟨v, h1, h2⟩ := vals_at (i := i) (u := u) rs (by simpa using h)
    exact ⟨v, by simpa using h1, h2⟩
theorem cr_best (hu : X.A.units + 64 < cLine) (hc : X.calm = true) (mx : Bool) : CallR X (.builtin (if mx = true then "max" else "min")) (rBest X.K mx) := by
  intro pins s σ H vs us Q I r h
  obtain ⟨a, xs, d, ds, rfl, hs, hd, hcl, hal, hdp, q⟩ := h
  obtain ⟨its, rv, hl, _⟩ := I.list hs
  rw [Vals.ref1 r]
  obtain ⟨as, hr⟩ := Dp.readsAll I (d :: ds) xs its hd rv
  have fin : ∀ (i : Nat) (v : Value) (h' : Heap) (tk : Nat) (bs : List Addr), its.toArray[i]? = some v → Reads h' v (bestD mx d ds) bs → (∀ b o, s.heap.get? b = some o → h'.get? b = some o) → EP X pins σ Q v { s with heap := h', toks := tk } := fun i v h' tk bs hv hz hk => by
    have hv2 : its[i]? = some v := by simpa using hv
    have e1 := best_item hr hcl hv2 hz hk
    obtain ⟨w, hw, rw'⟩ := vals_at rv hv2
    exact ⟨w, H, I.kept hk, rw', q i w hw e1⟩
  cases mx with
  | true => exact W.max_list_data (I.ok.hd hc) hl.isList (show ReadsAll s.heap its.toArray.toList (d :: ds) as from hr) hal (by omega) fin
  | false => exact W.min_list_data (I.ok.hd hc) hl.isList (show ReadsAll s.heap its.toArray.toList (d :: ds) as from hr) hal (by omega) fin
/-- max(xs), min(xs), xs a list -/
def bestL (mx : Bool) : OpL := fun xs k => match xs with
  | [.list (d :: ds)] => PyData.canLayAll0 (d :: ds) = true ∧ W.AlikeAll (d :: ds) ∧ PyData.depthAll (d :: ds) ≤ 60 ∧ k (.d (bestD mx d ds))
  | _ => False
theorem best_mem (mx : Bool) (d : PyData) (ds : List PyData) : ∃ i : Nat, (d :: ds)[i]? = some (bestD mx d ds) := by
  have key : ∀ (f : PyData → PyData → Bool) (ds : List PyData) (a : PyData), ds.foldl (fun a y => if f a y = true then y else a) a = a ∨ ds.foldl (fun a y => if f a y = true then y else a) a ∈ ds := fun f ds => by
    induction ds with
    | nil => exact fun a => .inl rfl
    | cons x r ih =>
      intro a
      rw [List.foldl_cons]
      rcases ih (if f a x = true then x else a) with h | h
      · rw [h]
        split
        · exact .inr List.mem_cons_self
        · exact .inl rfl
      · exact .inr (List.mem_cons_of_mem _ h)
  have mem : bestD mx d ds ∈ d :: ds := by
    unfold bestD
    split
    · rcases key (fun a y => W.dataLt a y) ds d with h | h
      · unfold W.maxD
        rw [h]
        exact List.mem_cons_self
      · exact List.mem_cons_of_mem _ h
    · rcases key (fun a y => W.dataLt y a) ds d with h | h
      · unfold W.minD
        rw [h]
        exact List.mem_cons_self
      · exact List.mem_cons_of_mem _ h
  exact List.getElem?_of_mem mem
theorem cr_bestL (hu : X.A.units + 64 < cLine) (hc : X.calm = true) (mx : Bool) : CallR X (.builtin (if mx = true then "max" else "min")) (rDs (pm X T) (bestL mx)) := CallRimp (cr_best hu hc mx) fun vs H Q h => by
  obtain ⟨M, ds, Q3, hm, ht, hp, q, k⟩ := h
  unfold bestL at q
  split at q
  · next d ds =>
    obtain ⟨q1, q2, q3, q4⟩ := q
    obtain ⟨v, rfl, hv⟩ := one_of hp
    obtain ⟨a, xs, rfl, hl, hd⟩ := hv.lst
    refine ⟨a, xs, d, ds, rfl, SqL.of hl, DMs.dp q1 hd, q1, q2, q3, fun i w hw hy => ?_⟩
    obtain ⟨y, e1, e2⟩ := hd.get hw
    rw [hy] at e1
    cases e1
    exact k _ w H q4 (ExtN.refl H) ht e2
  · exact q.elim
end
end T3
set_option linter.all false
set_option maxRecDepth 100000
set_option maxHeartbeats 2000000
set_option Elab.async false
/-! T37: three names at once. -/
namespace T3
open L2 LamX PySem PyProof.Rows PySem.Spec
section
variable {X : Cx} {T : List (Addr × Str)} {E : XK} {a b c : Expr} {pos : Pos}
theorem es_par3 {i j l : Nat} {x y z : Str} {ws : WPs} {px py pz pt : Pos} {kt k2 pt2} (hc : X.calm = true) (hN : X.N.Nodup) (hi : X.N[i]? = some x) (hj : X.N[j]? = some y) (hl : X.N[l]? = some z) (hij : i ≠ j) (hil : i ≠ l) (hjl : j ≠ l)
    (hx : X.env.scope.names.lookup x = some .local) (hy : X.env.scope.names.lookup y = some .local) (hz : X.env.scope.names.lookup z = some .local) (ha : PA X [a, b, c] (liftPs (pm X T) E ws))
    (hw : swappedStores [.Tuple [.Name x px, .Name y py, .Name z pz] kt pt] (.Tuple [a, b, c] k2 pt2) X.env = pure (some [x, y, z]))
    (hs : swapsWithSole [.Tuple [.Name x px, .Name y py, .Name z pz] kt pt] (.Tuple [a, b, c] k2 pt2) pos.line X.env = pure false := by rfl) :
    PS X (.Assign [.Tuple [.Name x px, .Name y py, .Name z pz] kt pt] (.Tuple [a, b, c] k2 pt2) pos) (liftS (pm X T) E (wPar [i, j, l] ws)) := by
  refine PSimp (ps_par3 hc hN hi hj hl hij hil hjl hx hy hz ha hw hs) fun D σ H h => ?_
  refine par_lift h fun vs H' hl q => ?_
  match vs, hl with
  | [u, v, w], _ => exact ⟨u, v, w, rfl, q⟩
theorem chain_lift {o o' : Op2} {wa wb wc : W} {σ : St} {H : Hp} {Q : VK} (h : lift (pm X T) E (wChain o o' wa wb wc) σ H Q) : tChain (rD (pm X T) o) (rD (pm X T) o') (lift (pm X T) E wa) (lift (pm X T) E wb) (lift (pm X T) E wc) σ H Q := by
  obtain ⟨H0, M0, M, ρ, XW, Q3, re, xo, q, k⟩ := h
  refine ⟨H0, M0, M, ρ, XW, _, re, xo, q, fun r v H1 qr e1 t1 rr => ?_⟩
  obtain ⟨x, hx, qx⟩ := rr.weak qr
  refine ⟨H0, M0, M, ρ, XW, _, re.grow e1 t1, xo.grow e1, qx, fun s u H2 qs e2 t2 rs => ?_⟩
  obtain ⟨y, hy, qy⟩ := rs.weak qs
  have re2 := re.grow (e1.trans e2) t2
  refine ⟨M, x, y, _, re2.mdom, t2, hx.ext e2, hy, qy, fun t z H3 qt e3 t3 rt => ?_⟩
  obtain ⟨c1, ez, qc⟩ := rt.bool qt
  refine ⟨c1, ez, ?_⟩
  have re3 := re2.grow e3 t3
  cases c1 with
  | false => exact k _ _ H3 qc ((e1.trans e2).trans e3) t3 (.bl false)
  | true =>
    refine ⟨H0, M0, M, ρ, XW, _, re3, xo.grow ((e1.trans e2).trans e3), qc, fun u' w' H4 q4 e4 t4 r4 => ?_⟩
    obtain ⟨z', hz, qz⟩ := r4.weak q4
    exact ⟨M, y, z', Q3, (re3.grow e4 t4).mdom, t4, (hy.ext e3).ext e4, hz, qz, fun r' v' H5 q5 e5 t5 rr5 => k r' v' H5 q5 ((((e1.trans e2).trans e3).trans e4).trans e5) t5 (rr5.back (((e1.trans e2).trans e3).trans e4))⟩
/-- a < b < c as a test -/
theorem et_chainT {op op' : CmpOp} {o o' : Op2} {wa wb wc : W} (ho : OpR X (compareOp op) (rD (pm X T) o)) (ho' : OpR X (compareOp op') (rD (pm X T) o')) (ha : PE X a (lift (pm X T) E wa)) (hb : PE X b (lift (pm X T) E wb)) (hc : PE X c (lift (pm X T) E wc))
    (hm : lastMarks [op, op'] [b, c] = false := by with_unfolding_all rfl) : PT X (.Compare a [op, op'] [b, c] pos) (liftB (pm X T) E (wT (wChain o o' wa wb wc))) := PTimp (pt_chain ho ho' ha hb hc hm) fun σ H Q h => chain_lift (tB_lift h)
end
end T3
set_option linter.all false
set_option maxRecDepth 100000
set_option maxHeartbeats 2000000
set_option Elab.async false
/-! T38: sorted of a list of alike data; min and max of a tuple. -/
namespace T3
open L2 LamX PySem PyProof.Rows PySem.Spec

def rSortD (K : PySem.W.Frag) : List V → Hp → VK → Prop := fun vs H Q => ∃ (a : Addr) (xs : List V) (ds : List PyData), vs = [V.ref a] ∧ SqL K H a xs ∧ DpAll K H xs ds ∧ W.AllAlike ds ∧ W.Sortable ds ∧ PyData.depthAll ds ≤ 60 ∧
  ∀ (zs : List (V × PyData)) (p : Addr), zs = (xs.zip ds).mergeSort (W.dataLe false Prod.snd) → H p = none → Q (.ref p) (upd H p (.lst (zs.map Prod.fst)))
theorem dpAll_len {K : PySem.W.Frag} {H : Hp} : ∀ {xs : List V} {ds : List PyData}, DpAll K H xs ds → xs.length = ds.length
  | _, _, .nil => rfl
  | _, _, .cons _ r => by rw [List.length_cons, List.length_cons, dpAll_len r]
theorem each_zip : ∀ {xs : List V} {us : List Value} {ds : List PyData}, Vals xs us → xs.length = ds.length → W.EachIs (fun u (b : V × PyData) => RelV b.1 u) us (xs.zip ds)
  | _, _, [], .nil, _ => .nil
  | _, _, _ :: _, .cons r rs, h => .cons r (each_zip rs (by simpa using h))
  | _, _, _ :: _, .nil, h => by simp at h
  | _, _, [], .cons _ _, h => by simp at h
theorem each_back : ∀ {us : List Value} {zs : List (V × PyData)}, W.EachIs (fun u (b : V × PyData) => RelV b.1 u) us zs → Vals (zs.map Prod.fst) us
  | _, _, .nil => .nil
  | _, _, .cons h r => .cons h (each_back r)
theorem each_reads {X : Cx} {pins : List (Addr × Obj)} {σ : St} {H : Hp} {s : Shared} (I : Inv X pins σ H s) : ∀ {xs : List V} {us : List Value} {ds : List PyData}, Vals xs us → DpAll X.K H xs ds → W.EachIs (fun u (b : V × PyData) => ∃ as, Reads s.heap u b.2 as) us (xs.zip ds)
  | _, _, _, .nil, .nil => .nil
  | _, _, _, .cons r rs, .cons h hs => .cons (Dp.reads I _ _ _ h r) (each_reads I rs hs)
theorem zip_snd : ∀ {xs : List V} {ds : List PyData}, xs.length = ds.length → (xs.zip ds).map Prod.snd = ds
  | [], [], _ => rfl
  | _ :: xs, _ :: ds, h => by rw [List.zip_cons_cons, List.map_cons, zip_snd (by simpa using h)]
  | [], _ :: _, h => by simp at h
  | _ :: _, [], h => by simp at h
theorem depth_mem : ∀ {ds : List PyData} {d : PyData}, d ∈ ds → d.depth ≤ PyData.depthAll ds
  | [], _, h => by cases h
  | x :: ds, d, h => by
    rw [PyData.depthAll]
    rcases List.mem_cons.mp h with rfl | h
    · exact Nat.le_max_left _ _
    · exact Nat.le_trans (depth_mem h) (Nat.le_max_right _ _)
section
variable {X : Cx} {T : List (Addr × Str)}
theorem cr_sortD (hu : X.A.units + 64 < cLine) : CallR X (.builtin "sorted") (rSortD X.K) := by
  intro pins s σ H vs us Q I r h
  obtain ⟨a, xs, ds, rfl, hs, hd, hal, hso, hdp, q⟩ := h
  obtain ⟨its, rv, hl, hz⟩ := I.list hs
  rw [Vals.ref1 r]
  have hlen := dpAll_len hd
  have ez := zip_snd hlen
  have hzl : (xs.zip ds).length = xs.length := by rw [List.length_zip, hlen, Nat.min_self]
  refine W.sorted_data (R := fun u (b : V × PyData) => RelV b.1 u) (enc := Prod.snd) hl.isList (each_zip rv hlen) (each_reads I rv hd) (by rw [ez]; exact hal) (by rw [ez]; exact hso) (by rw [hzl]; exact hz) (fun b hb => ?_) fun out ho eo => ?_
  · have hm : b.2 ∈ (xs.zip ds).map Prod.snd := List.mem_map.mpr ⟨b, hb, rfl⟩
    rw [ez] at hm
    have := depth_mem hm
    omega
  · obtain ⟨ep, he'⟩ := PyProof.Rows.sortedAll_at s.heap its out.toArray
    have k1 := each_back eo
    refine ⟨.ref _, upd H (s.heap.objs.size + 1) (.lst (((xs.zip ds).mergeSort (W.dataLe false Prod.snd)).map Prod.fst)), I.laid (t' := s.toks) (fun _ _ => PyProof.Rows.sortedAll_old) (Nat.le_succ _) ⟨?_, out, ep, k1, he'⟩, rfl, q _ _ rfl (I.hok.fresh (Nat.le_succ _))⟩
    rw [List.length_map, List.length_mergeSort, hzl]
    exact hz
def sortL : OpL := fun xs k => match xs with
  | [.list ds] => PyData.canLayAll0 ds = true ∧ W.AllAlike ds ∧ W.Sortable ds ∧ PyData.depthAll ds ≤ 60 ∧ ∀ ys, ys = ds.mergeSort (W.dataLe false id) → k (.fr ys)
  | _ => False
theorem dms_pairs {K : PySem.W.Frag} {M : Ad} {H : Hp} : ∀ {zs : List (V × PyData)}, (∀ p ∈ zs, DM K M H p.1 p.2) → DMs K M H (zs.map Prod.fst) (zs.map Prod.snd)
  | [], _ => .nil
  | p :: zs, h => .cons (h p List.mem_cons_self) (dms_pairs fun q hq => h q (List.mem_cons_of_mem _ hq))
theorem dms_zip {K : PySem.W.Frag} {M : Ad} {H : Hp} : ∀ {xs : List V} {ds : List PyData}, DMs K M H xs ds → ∀ p ∈ xs.zip ds, DM K M H p.1 p.2
  | _, _, .nil, p, h => by cases h
  | _, _, .cons h r, p, hp => by
    rw [List.zip_cons_cons] at hp
    rcases List.mem_cons.mp hp with rfl | hp
    · exact h
    · exact dms_zip r p hp
theorem cr_sortL (hu : X.A.units + 64 < cLine) : CallR X (.builtin "sorted") (rDs (pm X T) sortL) := CallRimp (cr_sortD hu) fun vs H Q h => by
  obtain ⟨M, ds, Q3, hm, ht, hp, q, k⟩ := h
  unfold sortL at q
  split at q
  · next ds =>
    obtain ⟨q1, q2, q3, q4, q5⟩ := q
    obtain ⟨v, rfl, h⟩ := one_of hp
    obtain ⟨a, xs, rfl, hl, hd⟩ := h.lst
    refine ⟨a, xs, ds, rfl, SqL.of hl, DMs.dp q1 hd, q2, q3, q4, fun zs p ez np => ?_⟩
    have hzd : ∀ p ∈ zs, DM X.K M H p.1 p.2 := fun p hp => dms_zip hd p (by rw [ez] at hp; exact (List.mergeSort_perm _ _).mem_iff.mp hp)
    have e2 : zs.map Prod.snd = ds.mergeSort (W.dataLe false id) := by
      rw [ez]
      have z := List.map_mergeSort (r := W.dataLe false (Prod.snd (α := V) (β := PyData))) (s := W.dataLe false id) (f := Prod.snd) (l := xs.zip ds) (fun _ _ _ _ => rfl)
      rw [zip_snd hd.length] at z
      exact z
    have z := dms_pairs hzd
    rw [e2] at z
    exact k _ _ _ (q5 _ rfl) (ext_new np) (tabs_new ht np) (lst_new (ExtN.refl H) np z)
  · exact q.elim
/-! min, max of a tuple -/
def rBestT (K : PySem.W.Frag) (mx : Bool) : List V → Hp → VK → Prop := fun vs H Q => ∃ (a : Addr) (xs : List V) (d : PyData) (ds : List PyData), vs = [V.ref a] ∧ SqT K H a xs ∧ DpAll K H xs (d :: ds) ∧ PyData.canLayAll0 (d :: ds) = true ∧ W.AlikeAll (d :: ds) ∧ PyData.depthAll (d :: ds) ≤ 60 ∧
  ∀ (i : Nat) (v : V), xs[i]? = some v → (d :: ds)[i]? = some (bestD mx d ds) → Q v H
theorem cr_bestT (hu : X.A.units + 64 < cLine) (hc : X.calm = true) (mx : Bool) : CallR X (.builtin (if mx = true then "max" else "min")) (rBestT X.K mx) := by
  intro pins s σ H vs us Q I r h
  obtain ⟨a, xs, d, ds, rfl, hs, hd, hcl, hal, hdp, q⟩ := h
  obtain ⟨its, rv, hl, _⟩ := I.tuple hs
  rw [Vals.ref1 r]
  obtain ⟨as, hr⟩ := Dp.readsAll I (d :: ds) xs its hd rv
  have fin : ∀ (i : Nat) (v : Value) (h' : Heap) (tk : Nat) (bs : List Addr), its.toArray[i]? = some v → Reads h' v (bestD mx d ds) bs → (∀ b o, s.heap.get? b = some o → h'.get? b = some o) → EP X pins σ Q v { s with heap := h', toks := tk } := fun i v h' tk bs hv hz hk => by
    have hv2 : its[i]? = some v := by simpa using hv
    have e1 := best_item hr hcl hv2 hz hk
    obtain ⟨w, hw, rw'⟩ := vals_at rv hv2
    exact ⟨w, H, I.kept hk, rw', q i w hw e1⟩
  cases mx with
  | true => exact W.max_tuple_data (I.ok.hd hc) (show s.heap.IsTuple a its.toArray from hl) (show ReadsAll s.heap its.toArray.toList (d :: ds) as from hr) hal (by omega) fin
  | false => exact W.min_tuple_data (I.ok.hd hc) (show s.heap.IsTuple a its.toArray from hl) (show ReadsAll s.heap its.toArray.toList (d :: ds) as from hr) hal (by omega) fin
def bestT (mx : Bool) : OpL := fun xs k => match xs with
  | [.tuple (d :: ds)] => PyData.canLayAll0 (d :: ds) = true ∧ W.AlikeAll (d :: ds) ∧ PyData.depthAll (d :: ds) ≤ 60 ∧ k (.d (bestD mx d ds))
  | _ => False
theorem cr_bestTL (hu : X.A.units + 64 < cLine) (hc : X.calm = true) (mx : Bool) : CallR X (.builtin (if mx = true then "max" else "min")) (rDs (pm X T) (bestT mx)) := CallRimp (cr_bestT hu hc mx) fun vs H Q h => by
  obtain ⟨M, ds, Q3, hm, ht, hp, q, k⟩ := h
  unfold bestT at q
  split at q
  · next d ds =>
    obtain ⟨q1, q2, q3, q4⟩ := q
    obtain ⟨v, rfl, hv⟩ := one_of hp
    obtain ⟨a, xs, rfl, hl, hd⟩ := hv.tup
    refine ⟨a, xs, d, ds, rfl, hl.sq, DMs.dp q1 hd, q1, q2, q3, fun i w hw hy => ?_⟩
    obtain ⟨y, e1, e2⟩ := hd.get hw
    rw [hy] at e1
    cases e1
    exact k _ w H q4 (ExtN.refl H) ht e2
  · exact q.elim
end
end T3
set_option linter.all false
set_option maxRecDepth 100000
set_option maxHeartbeats 2000000
set_option Elab.async false
/-! T39: sorted of a dict whose keys are ints. -/
namespace T3
open L2 LamX PySem PyProof.Rows PySem.Spec
theorem ints_of_at : ∀ {vs : List Value} {ns : List Int}, vs.length = ns.length → (∀ (j : Nat) (v : Value), vs[j]? = some v → ∃ n t, ns[j]? = some n ∧ v = Value.int n t) → IntsAre vs ns
  | [], [], _, _ => .nil
  | [], _ :: _, h, _ => by simp at h
  | _ :: _, [], h, _ => by simp at h
  | v :: vs, n :: ns, h, hv => by
    obtain ⟨m, t, e1, e2⟩ := hv 0 v rfl
    have e3 : n = m := Option.some.inj e1
    subst e3 e2
    exact .cons _ _ (ints_of_at (by simpa using h) fun j u hu => by simpa using hv (j + 1) u (by simpa using hu))
section
variable {prog : Program} {w : World} {A : Around} {E : Value → Shared → Prop} {s : Shared}
theorem sorted_dict {d : Addr} {kvs : List (Key × Value)} {ns : List Int} {Q : Value → Shared → Prop} (hh : A.in1.handled = none) (lo : (d == sysModules) = false) (hD : s.heap.DictOf (mixKind prog w) d kvs) (hk : kvs.map (·.1) = ns.map Sum.inl) (hn : kvs.length ≤ sizeLine)
    (h : ∀ (h' : Heap) (tk : Nat) (D : Addr) (out : List Value) (e : Nat), (∀ b o, s.heap.get? b = some o → h'.get? b = some o) → (∃ h1 : Heap, (∀ b o, s.heap.get? b = some o → h1.get? b = some o) ∧ h1.objs.size ≤ D) → h'.get? D = some (seqObj "list" out.toArray e) → out.length = kvs.length → IntsAre out (out.map SrtO.iv) → (out.map SrtO.iv).Perm ns → (out.map SrtO.iv).Pairwise (· ≤ ·) → Q (.ref D) { s with heap := h', toks := tk }) :
    wpAny (model prog w) A (call (.builtin "sorted") [.ref d]) Q E s := by
  obtain ⟨ep, hat⟩ := hD.dictAt
  refine Calls.call_function_entry kind_sorted plain_sorted entry_sorted (args_sorted1 _) ?_
  unfold Builtin.«sorted»
  refine wpAny_bind (m := checkCount "sorted" 1 1 _) (wpAny_pure ?_)
  refine wpAny_bind (W.kdu_collect (A := A.in1) (W.kdl_dict (knd := mixKind prog w) (kvs := kvs) (ep := ep) lo) hh hat hn fun h' tk acc hk' hacc => ?_)
  have hl : acc.toList.length = kvs.length := by rw [Array.length_toList]; exact hacc.1
  have hlen : kvs.length = ns.length := by
    have := congrArg List.length hk
    simpa using this
  have hi : IntsAre acc.toList ns := ints_of_at (by rw [hl, hlen]) fun j v hv => by
    obtain ⟨k, x, e1, e2⟩ := hacc.2 j v (by rw [← Array.getElem?_toList]; exact hv)
    have e3 : (kvs.map (·.1))[j]? = some k := by rw [List.getElem?_map, e1]; rfl
    rw [hk, List.getElem?_map] at e3
    cases hj : ns[j]? with
    | none =>
      rw [hj] at e3
      cases e3
    | some n =>
      rw [hj] at e3
      have e4 : Sum.inl n = k := Option.some.inj e3
      subst e4
      rcases keyIs_shape (show keyIs (Sum.inl n) v = true from e2) with ⟨i, t, e5, e6⟩ | ⟨y, t, e5, e6⟩
      · injection e5 with e5
        subst e5
        exact ⟨n, t, rfl, e6⟩
      · cases e5
  have hz : acc.toList.length ≤ sizeLine := by rw [hl]; exact hn
  refine wpAny_bind (wpAny_newList ?_ hz)
  have hoL : (h'.push (seqObj "list" acc.toList.toArray 0)).get? h'.objs.size = some (seqObj "list" acc.toList.toArray 0) := Heap.get?_push_size _ rfl
  show wpAny _ _ _ _ _ { s with heap := h'.push (seqObj "list" acc.toList.toArray 0), toks := tk }
  refine wpAny_bind (wpAny_holding (wpAny_call_entry slot_list_sort ⟨_, hoL, rfl⟩ entry_list_sort (SrtO.list_sort_ord (s := { s with heap := h'.push (seqObj "list" acc.toList.toArray 0), toks := tk }) SrtO.swo_int hoL hz (fun h2 => SrtO.ints_sortable hi h2) fun out hs hb => ⟨_, rfl, ?_⟩) (args_list_sort _)))
  obtain ⟨k1, k2, k3⟩ := SrtO.ints_out hi hs hb
  obtain ⟨e, he⟩ := sortedHeap_at (out := out.toArray) hoL
  refine wpAny_pure ⟨_, rfl, h _ _ h'.objs.size out e (fun b o q => ?_) ?_ he ?_ k1 k2 k3⟩
  · have q2 := hk' b o q
    have hlt : b < h'.objs.size := Heap.lt_size q2
    rw [sortedHeap_old (Nat.ne_of_lt hlt) (by rw [size_push']; exact Nat.lt_succ_of_lt hlt)]
    exact Heap.get?_push_of_some _ q2
  · exact ⟨h', hk', Nat.le_refl _⟩
  · have z := k2.length_eq
    rw [List.length_map] at z
    omega
end
section
variable {X : Cx} {T : List (Addr × Str)}
def rSortK : List V → Hp → VK → Prop := fun vs H Q => ∃ (a : Addr) (kws : List (Key × V)) (ns : List Int), vs = [V.ref a] ∧ H a = some (.dK kws) ∧ kws.map (·.1) = ns.map Sum.inl ∧
  ∀ (ns' : List Int) (p : Addr), ns'.Perm ns → ns'.Pairwise (· ≤ ·) → H p = none → Q (.ref p) (upd H p (.lst (ns'.map V.int)))
theorem kv_keys : ∀ {kws : List (Key × V)} {kvs : List (Key × Value)}, KV kws kvs → kvs.map (·.1) = kws.map (·.1)
  | _, _, .nil => rfl
  | _, _, .cons h r => by rw [List.map_cons, List.map_cons, kv_keys r, h.1]
theorem cr_sortK0 (hc : X.calm = true) : CallR X (.builtin "sorted") rSortK := by
  intro pins s σ H vs us Q I r h
  obtain ⟨a, kws, ns, rfl, ha, hk, q⟩ := h
  obtain ⟨hz, lo, kvs, rel, hD⟩ := dk_of I.hok ha
  rw [Vals.ref1 r]
  have hl : kvs.length = kws.length := by
    have := congrArg List.length (kv_keys rel)
    simpa using this
  refine sorted_dict (I.ok.hd hc) lo hD (by rw [kv_keys rel]; exact hk) (by rw [hl]; exact hz) fun h' tk D out e k1 ⟨h1, k2, k3⟩ hg ho hi hp hpw => ?_
  have hn : H D = none := (I.hok.kept k2).fresh k3
  have hp0 : s.heap.get? D = none := by
    cases hq : s.heap.get? D with
    | none => rfl
    | some o => exact absurd (Nat.lt_of_lt_of_le (Heap.lt_size (k2 _ _ hq)) k3) (Nat.lt_irrefl _)
  refine ⟨.ref D, upd H D (.lst ((out.map SrtO.iv).map V.int)), I.laidN (t' := tk) k1 hp0 hn ⟨?_, out, e, vals_of_ints hi, hg⟩, rfl, q _ _ hp hpw hn⟩
  rw [List.length_map, List.length_map, ho, hl]
  exact hz
def sortK : OpL := fun xs k => match xs with
  | [.dict ps] => ∃ (kvs : List (Key × PyData)) (ns : List Int), ps = dictD kvs ∧ kvs.map (·.1) = ns.map Sum.inl ∧ ∀ ms : List Int, ms.Perm ns → ms.Pairwise (· ≤ ·) → k (.fr (ms.map PyData.int))
  | _ => False
theorem dks_keys {K : PySem.W.Frag} {M : Ad} {H : Hp} : ∀ {kws : List (Key × V)} {kvs : List (Key × PyData)}, DKs K M H kws kvs → kws.map (·.1) = kvs.map (·.1)
  | _, _, .nil => rfl
  | _, _, .cons _ r => by rw [List.map_cons, List.map_cons, dks_keys r]
theorem cr_sortK (hc : X.calm = true) : CallR X (.builtin "sorted") (rDs (pm X T) sortK) := CallRimp (cr_sortK0 hc) fun vs H Q h => by
  obtain ⟨M, ds, Q3, hm, ht, hp, q, k⟩ := h
  unfold sortK at q
  split at q
  · next ps =>
    obtain ⟨kvs, ns, e, hk, q⟩ := q
    obtain ⟨v, rfl, hv⟩ := one_of hp
    obtain ⟨kvs', a, kws, e2, rfl, ha, hd⟩ := hv.dct
    have e3 := dictD_inj (e.symm.trans e2)
    subst e3
    exact ⟨a, kws, ns, rfl, ha, (dks_keys hd).trans hk, fun ms p h1 h2 np => k _ _ _ (q ms h1 h2) (ext_new np) (tabs_new ht np) (lst_new (ExtN.refl H) np (dms_ints ms))⟩
  · exact q.elim
end
end T3
set_option linter.all false
set_option maxRecDepth 100000
set_option maxHeartbeats 2000000
set_option Elab.async false
/-! T40: rows of whole numbers that end in a tuple of whole numbers: their least, as lists of whole numbers. -/
namespace T3
open L2 LamX PySem PyProof.Rows PySem.Spec
/-- the first j ahead, the others in a tuple -/
def rowD (j : Nat) (k : List Int) : PyData := .tuple ((k.take j).map PyData.int ++ [tupI (k.drop j)])
theorem row_eqv_ints : ∀ a b : List Int, PyData.eqvAll (a.map .int) (b.map .int) = decide (a = b)
  | [], [] => rfl
  | [], _ :: _ => by simp [PyData.eqvAll]
  | _ :: _, [] => by simp [PyData.eqvAll]
  | x :: a, y :: b => by
    rw [List.map_cons, List.map_cons, PyData.eqvAll, row_eqv_ints a b]
    by_cases h : x = y <;> by_cases h2 : a = b <;> simp [h, h2, PyData.eqv]
theorem tupI_lt (a b : List Int) : W.dataLt (tupI a) (tupI b) = decide (a < b) := by
  show W.dataLt (.tuple (a.map PyData.int)) (.tuple (b.map PyData.int)) = _
  rw [W.dataLt_tuple]
  exact W.dataLt_ints a b
theorem tupI_alike (a b : List Int) : W.alike (tupI a) (tupI b) = true := by
  show W.alike (.tuple (a.map PyData.int)) (.tuple (b.map PyData.int)) = true
  rw [W.alike]
  exact T3.alike_ints a b
theorem rowLt_eq : ∀ (j : Nat) (a b : List Int), j ≤ a.length → j ≤ b.length → W.rowLt ((a.take j).map PyData.int ++ [tupI (a.drop j)]) ((b.take j).map PyData.int ++ [tupI (b.drop j)]) = decide (a < b)
  | 0, a, b, _, _ => by
    show W.rowLt [tupI a] [tupI b] = _
    unfold W.rowLt
    rw [W.dataLt_cons (tupI_alike a b), tupI_lt]
    have e : PyProof.Rows.lexLt PyProof.Rows.itemOrd (W.keyToksAll []) (W.keyToksAll []) = false := PyProof.Rows.lex_irrefl _
    rw [e]
    have e2 : PyData.eqv (tupI a) (tupI b) = decide (a = b) := by
      show PyData.eqv (.tuple (a.map PyData.int)) (.tuple (b.map PyData.int)) = _
      rw [PyData.eqv, row_eqv_ints]
    rw [e2]
    by_cases c : a = b
    · subst c
      simp
    · simp [c]
  | j + 1, x :: a, y :: b, ha, hb => by
    show W.rowLt (PyData.int x :: ((a.take j).map PyData.int ++ [tupI (a.drop j)])) (PyData.int y :: ((b.take j).map PyData.int ++ [tupI (b.drop j)])) = _
    unfold W.rowLt
    rw [W.dataLt_cons (by simp [W.alike]), W.dataLt_int]
    have ih := rowLt_eq j a b (by simpa using ha) (by simpa using hb)
    unfold W.rowLt at ih
    rw [ih]
    have e2 : PyData.eqv (.int x) (.int y) = decide (x = y) := by
      by_cases c : x = y <;> simp [PyData.eqv, c]
    rw [e2]
    by_cases c : x = y
    · subst c
      rw [decide_eq_true rfl, if_pos rfl]
      exact decide_eq_decide.mpr ⟨fun h => List.cons_lt_cons_iff.mpr (.inr ⟨rfl, h⟩), fun h => (List.cons_lt_cons_iff.mp h).elim (fun h => absurd h (Int.lt_irrefl _)) fun h => h.2⟩
    · rw [decide_eq_false c, if_neg Bool.false_ne_true]
      exact decide_eq_decide.mpr ⟨fun h => List.cons_lt_cons_iff.mpr (.inl h), fun h => (List.cons_lt_cons_iff.mp h).elim id fun h => absurd h.1 c⟩
  | j + 1, [], _, h, _ => by simp at h
  | j + 1, _ :: _, [], _, h => by simp at h
theorem rowD_lt {j : Nat} {a b : List Int} (ha : j ≤ a.length) (hb : j ≤ b.length) : W.dataLt (rowD j a) (rowD j b) = decide (a < b) := by
  unfold rowD
  rw [W.dataLt_tuple]
  exact rowLt_eq j a b ha hb
theorem alikeAll_rows : ∀ (j : Nat) (a b : List Int), j ≤ a.length → j ≤ b.length → W.alikeAll ((a.take j).map PyData.int ++ [tupI (a.drop j)]) ((b.take j).map PyData.int ++ [tupI (b.drop j)]) = true
  | 0, a, b, _, _ => by
    show W.alikeAll [tupI a] [tupI b] = true
    rw [W.alikeAll, W.alikeAll, tupI_alike]
    rfl
  | j + 1, x :: a, y :: b, ha, hb => by
    show W.alikeAll (PyData.int x :: ((a.take j).map PyData.int ++ [tupI (a.drop j)])) (PyData.int y :: ((b.take j).map PyData.int ++ [tupI (b.drop j)])) = true
    rw [W.alikeAll, alikeAll_rows j a b (by simpa using ha) (by simpa using hb), W.alike]
    rfl
  | j + 1, [], _, h, _ => by simp at h
  | j + 1, _ :: _, [], _, h => by simp at h
theorem rowD_alike {j : Nat} {a b : List Int} (ha : j ≤ a.length) (hb : j ≤ b.length) : W.alike (rowD j a) (rowD j b) = true := by
  unfold rowD
  rw [W.alike]
  exact alikeAll_rows j a b ha hb
theorem lay_rowD (j : Nat) (k : List Int) : PyData.canLay0 (rowD j k) = true := by
  unfold rowD
  have h : ∀ xs : List Int, PyData.canLayAll0 (xs.map PyData.int ++ [tupI (k.drop j)]) = true := by
    intro xs
    induction xs with
    | nil =>
      have := (lay_ints (k.drop j)).1
      rw [List.map_nil, List.nil_append, PyData.canLayAll0, PyData.canLayAll0]
      show (PyData.canLay0 (.tuple ((k.drop j).map PyData.int)) && true) = true
      rw [this]
      rfl
    | cons x xs ih =>
      rw [List.map_cons, List.cons_append, PyData.canLayAll0, ih, PyData.canLay0]
      rfl
  have := h (k.take j)
  simpa [PyData.canLay0] using this
theorem depth_ints : ∀ a : List Int, PyData.depthAll (a.map PyData.int) ≤ 1
  | [] => by simp [PyData.depthAll]
  | x :: a => by
    rw [List.map_cons, PyData.depthAll]
    have := depth_ints a
    have : (PyData.int x).depth ≤ 1 := by simp [PyData.depth]
    omega
theorem rowD_depth (j : Nat) (k : List Int) : (rowD j k).depth ≤ 4 := by
  have h : ∀ xs : List Int, PyData.depthAll (xs.map PyData.int ++ [tupI (k.drop j)]) ≤ 3 := by
    intro xs
    induction xs with
    | nil =>
      rw [List.map_nil, List.nil_append, PyData.depthAll, PyData.depthAll]
      have e : (tupI (k.drop j)).depth ≤ 2 := by
        show PyData.depth (.tuple ((k.drop j).map PyData.int)) ≤ 2
        rw [PyData.depth]
        have := depth_ints (k.drop j)
        omega
      omega
    | cons x xs ih =>
      rw [List.map_cons, List.cons_append, PyData.depthAll]
      have : (PyData.int x).depth ≤ 1 := by simp [PyData.depth]
      omega
  unfold rowD
  rw [PyData.depth]
  have := h (k.take j)
  omega
theorem depthAll_le {n : Nat} : ∀ {xs : List PyData}, (∀ x ∈ xs, x.depth ≤ n) → PyData.depthAll xs ≤ n
  | [], _ => by simp [PyData.depthAll]
  | x :: xs, h => by
    rw [PyData.depthAll]
    have a := h x List.mem_cons_self
    have b := depthAll_le fun y hy => h y (List.mem_cons_of_mem _ hy)
    omega
theorem canLayAll_of : ∀ {xs : List PyData}, (∀ x ∈ xs, x.canLay0 = true) → PyData.canLayAll0 xs = true
  | [], _ => rfl
  | x :: xs, h => by
    rw [PyData.canLayAll0, h x List.mem_cons_self, canLayAll_of fun y hy => h y (List.mem_cons_of_mem _ hy)]
    rfl
theorem rgD_step {lo hi : Int} (h : lo < hi) : rgD lo hi = .int lo :: rgD (lo + 1) hi := by
  unfold rgD
  have e : (hi - lo).toNat = (hi - (lo + 1)).toNat + 1 := by omega
  rw [e, List.range_succ_eq_map, List.map_cons, List.map_map]
  congr 1
  · simp
  · refine List.map_congr_left fun i _ => ?_
    show PyData.int (lo + ((i + 1 : Nat) : Int)) = PyData.int (lo + 1 + (i : Int))
    congr 1
    omega
theorem rgD_end {lo hi : Int} (h : hi ≤ lo) : rgD lo hi = [] := by
  unfold rgD
  have e : (hi - lo).toNat = 0 := by omega
  rw [e]
  rfl
theorem rep_flat (x : PyData) (n : Nat) : (List.replicate n [x]).flatten = List.replicate n x := by
  induction n with
  | zero => rfl
  | succ n ih => rw [List.replicate_succ, List.flatten_cons, ih]; rfl
/-- the least of a list of lists of whole numbers -/
def IsMin (S : List Int → Prop) (m : List Int) : Prop := S m ∧ ∀ k, S k → ¬ k < m
theorem IsMin.uniq {S : List Int → Prop} {m m' : List Int} (h : IsMin S m) (h' : IsMin S m') : m = m' :=
  List.le_antisymm (List.not_lt.mp (h.2 _ h'.1)) (List.not_lt.mp (h'.2 _ h.1))
theorem IsMin.congr {S S' : List Int → Prop} {m : List Int} (h : IsMin S m) (e : ∀ k, S k ↔ S' k) : IsMin S' m := ⟨(e _).mp h.1, fun k hk => h.2 k ((e _).mpr hk)⟩
theorem min_fold {F : List Int → PyData} : ∀ (ks : List (List Int)) (k : List Int), (∀ a ∈ k :: ks, ∀ b ∈ k :: ks, W.dataLt (F a) (F b) = decide (a < b)) → ∃ m ∈ k :: ks, W.minD (F k) (ks.map F) = F m ∧ ∀ b ∈ k :: ks, ¬ b < m
  | [], k, _ => ⟨k, List.mem_cons_self, rfl, fun b hb => by
    rw [List.mem_singleton] at hb
    subst hb
    exact List.lt_irrefl _⟩
  | x :: ks, k, h => by
    have e := h x (by simp) k (by simp)
    by_cases c : x < k
    · obtain ⟨m, hm, e2, hle⟩ := min_fold ks x fun a ha b hb => h a (List.mem_cons_of_mem _ ha) b (List.mem_cons_of_mem _ hb)
      refine ⟨m, List.mem_cons_of_mem _ hm, ?_, fun b hb => ?_⟩
      · unfold W.minD at e2 ⊢
        rw [List.map_cons, List.foldl_cons, e, decide_eq_true c, if_pos rfl]
        exact e2
      · rcases List.mem_cons.mp hb with rfl | hb
        · intro hc
          exact hle x List.mem_cons_self (List.lt_trans c hc)
        · exact hle b hb
    · obtain ⟨m, hm, e2, hle⟩ := min_fold ks k fun a ha b hb => h a (by
        rcases List.mem_cons.mp ha with rfl | ha
        · simp
        · simp [ha]) b (by
        rcases List.mem_cons.mp hb with rfl | hb
        · simp
        · simp [hb])
      refine ⟨m, ?_, ?_, fun b hb => ?_⟩
      · rcases List.mem_cons.mp hm with rfl | hm
        · simp
        · simp [hm]
      · unfold W.minD at e2 ⊢
        rw [List.map_cons, List.foldl_cons, e, decide_eq_false c, if_neg Bool.false_ne_true]
        exact e2
      · rcases List.mem_cons.mp hb with rfl | hb
        · exact hle b List.mem_cons_self
        · rcases List.mem_cons.mp hb with rfl | hb
          · intro hc
            have h1 := hle k List.mem_cons_self
            exact h1 (by
              have c1 := List.not_lt.mp c
              exact Std.lt_of_le_of_lt c1 hc)
          · exact hle b (List.mem_cons_of_mem _ hb)
/-- min(rows) -/
theorem best_rowD {j : Nat} {ks : List (List Int)} {k : R → Prop} (h0 : ks ≠ []) (hl : ∀ a ∈ ks, j ≤ a.length) (h : ∀ m, IsMin (· ∈ ks) m → k (.d (rowD j m))) : bestL false [.list (ks.map (rowD j))] k := by
  match ks, h0, hl, h with
  | k0 :: ks, _, hl, h =>
    obtain ⟨m, hm, e, hle⟩ := min_fold (F := rowD j) ks k0 fun a ha b hb => rowD_lt (hl a ha) (hl b hb)
    show PyData.canLayAll0 (rowD j k0 :: ks.map (rowD j)) = true ∧ W.AlikeAll (rowD j k0 :: ks.map (rowD j)) ∧ PyData.depthAll (rowD j k0 :: ks.map (rowD j)) ≤ 60 ∧ k (.d (W.minD (rowD j k0) (ks.map (rowD j))))
    rw [e, ← List.map_cons]
    refine ⟨canLayAll_of fun x hx => ?_, ⟨fun x hx y hy => ?_, fun x hx => ?_⟩, Nat.le_trans (depthAll_le (n := 4) fun x hx => ?_) (by omega), h m ⟨hm, hle⟩⟩
    · obtain ⟨a, _, rfl⟩ := List.mem_map.mp hx
      exact lay_rowD j a
    · obtain ⟨a, ha, rfl⟩ := List.mem_map.mp hx
      obtain ⟨b, hb, rfl⟩ := List.mem_map.mp hy
      exact rowD_alike (hl a ha) (hl b hb)
    · obtain ⟨a, _, rfl⟩ := List.mem_map.mp hx
      intro hc
      cases hc
    · obtain ⟨a, _, rfl⟩ := List.mem_map.mp hx
      exact rowD_depth j a
end T3
set_option linter.all false
set_option maxRecDepth 100000
set_option maxHeartbeats 2000000
set_option Elab.async false
/-! T41: dict comprehensions. -/
namespace T3
open L2 LamX PySem PyProof.Rows PySem.Spec
theorem dc_it {J : It} {n : Nat} {G : Hp → Prop} {Y : Nat → Hp → V → Hp → Prop} (w : Walk J n G Y) {g : TG} {tt : TT} {tk tv : TE} {vs : List Nat} {σ : St} {H1 : Hp} {D : Addr} {Qd : Hp → Prop} (Pv : Nat → Hp → Prop) (h0 : Pv 0 (upd H1 D (.dK []))) (hG : ∀ i H, i ≤ n → Pv i H → G H)
    (hs : ∀ i x H H', i < n → Pv i H → Y i H x H' → g x (L2.wipe σ vs) H' fun σ2 H2 => L2.wipe σ2 vs = L2.wipe σ vs ∧ tt σ2 H2 fun b H3 =>
      if b = true then tk σ2 H3 fun y H4 => tv σ2 H4 fun z H5 => ∃ kvs k, y = kV k ∧ H5 D = some (.dK kvs) ∧ kvs.length < sizeLine ∧ Pv (i + 1) (upd H5 D (.dK (putK kvs k z))) else Pv (i + 1) H3) (hd : ∀ H, Pv n H → Qd H) :
    ∃ W : Nat → Nat → Hp → Prop, (∃ m, W 0 m (upd H1 D (.dK []))) ∧ ∀ i m H, W i m H →
      (J.stop i H ∧ Qd H) ∨ (J.go i H ∧ ∃ Nx : Hp → Prop, (∀ H', Nx H' → ∃ m', m' < m ∧ W (i + 1) m' H') ∧ ∀ x H', J.yld i H x H' → g x (L2.wipe σ vs) H' fun σ2 H2 => L2.wipe σ2 vs = L2.wipe σ vs ∧ tt σ2 H2 fun b H3 =>
        if b = true then tk σ2 H3 fun y H4 => tv σ2 H4 fun z H5 => ∃ kvs k, y = kV k ∧ H5 D = some (.dK kvs) ∧ kvs.length < sizeLine ∧ Nx (upd H5 D (.dK (putK kvs k z))) else Nx H3) := by
  refine ⟨fun i m H => m = n - i ∧ i ≤ n ∧ Pv i H, ⟨n, by simp, Nat.zero_le _, h0⟩, ?_⟩
  rintro i m H ⟨rfl, hi, p⟩
  have q := hG i H hi p
  by_cases hlt : i < n
  · exact .inr ⟨w.goes i H hlt q, Pv (i + 1), fun H' p' => ⟨n - (i + 1), by omega, rfl, hlt, p'⟩, fun x H' y => hs i x H H' hlt p (w.yields i H x H' hlt q y)⟩
  · have e : i = n := by omega
    subst e
    exact .inl ⟨w.stops H q, hd H p⟩
/-- the pairs of the dict that a comprehension makes -/
def dcL (tg : Tg) (tt : WB) (tk tv : W) (ρ : Env3) (Q : List (Key × PyData) → Prop) : List PyData → List (Key × PyData) → Prop
  | [], acc => Q acc
  | x :: xs, acc => tgW tg x ρ fun ρ' => tt ρ' (fun b => if b = true then tk ρ' (fun r => r.st fun t => tv ρ' (fun s => s.st fun y => ∃ k, keyOf t = some k ∧ dcL tg tt tk tv ρ Q xs (putD acc k y)) noX) noX else dcL tg tt tk tv ρ Q xs acc) noX
def wDc (it : WI) (tg : Tg) (tt : WB) (tk tv : W) (vs : List Nat) : W := fun ρ Q X => it ρ (fun _ xs => dcL tg tt tk tv (wipe3 ρ vs) (fun ys => Q (.fk ys)) xs []) X
theorem putK_len (kvs : List (Key × V)) (k : Key) (v : V) : (putK kvs k v).length ≤ kvs.length + 1 := length_putK kvs k v
section
variable {X : Cx} {T : List (Addr × Str)} {E : XK}
theorem dc_lift {it : WI} {tg : Tg} {tt : WB} {tk tv : W} {vs : List Nat} (hv : ∀ i ∈ tg.ix, i ∈ vs) {σ : St} {H : Hp} {Q : VK} (h : lift (pm X T) E (wDc it tg tt tk tv vs) σ H Q) :
    tDc (liftI (pm X T) E it) (tgG X.K tg) (liftB (pm X T) E0 tt) (lift (pm X T) E0 tk) (lift (pm X T) E0 tv) vs σ H Q := by
  obtain ⟨H0, M0, M, ρ, XW, Q3, re, xo, q, k⟩ := h
  refine ⟨H0, M0, M, ρ, XW, _, re, xo, q, fun wk xs J H1 qx e1 t1 hlen hw D hD => ?_⟩
  obtain ⟨G, Y, walk, hG, hY⟩ := (hw H1 (fun _ => Fm.refl) (fun _ => rfl)).ex
  have offD : Off H1 D := .of_none hD
  have nD : ¬ M D := notM_new re.mdom e1 hD
  let Pv : Nat → Hp → Prop := fun i H' => ExtN H1 H' ∧ Tabs T H' ∧ ∃ acc ys, H' D = some (.dK acc) ∧ acc.length ≤ i ∧ DKs X.K (fun b => M b ∨ b = D) H' acc ys ∧ dcL tg tt tk tv (wipe3 ρ vs) (fun ys => Q3 (.fk ys)) (xs.drop i) ys
  refine dc_it walk Pv ⟨ext_new hD, tabs_new t1 hD, [], [], upd_same, Nat.le_refl _, .nil, qx⟩ (fun i H' _ p => hG H' p.1) ?_ ?_
  · rintro i x H2 H3 hi ⟨e2, t2, acc, ys, hacc, hal, hys, ql⟩ y
    have hM2 : ∀ a, (M a ∨ a = D) → ¬ Off H2 a := fun a m => by
      rcases m with m | rfl
      · exact fun z => re.mdom a m (z.back (e1.trans e2))
      · intro z
        obtain ⟨ps, w⟩ := z _ hacc
        cases w
    obtain ⟨e3, t3, d, hd, dd⟩ := hY i H2 x H3 (fun b => M b ∨ b = D) hi e2 (fun a m => m.imp id fun z => by rw [z]; exact offD) hM2 y
    have hx : xs.drop i = d :: xs.drop (i + 1) := by
      obtain ⟨h1, h2⟩ := List.getElem?_eq_some_iff.mp hd
      rw [← h2]
      exact List.drop_eq_getElem_cons h1
    rw [hx] at ql
    have D3 : H3 D = some (.dK acc) := e3 _ _ hacc (fun ps q => by cases q)
    have reD : RE (pm X T) H0 M0 (fun b => M b ∨ b = D) H3 (L2.wipe σ vs) (wipe3 ρ vs) :=
      (((re.grow e1 t1).addD offD (e2.trans e3) (t3 t2) (fun z => by
        obtain ⟨ps, w⟩ := z _ D3
        cases w))).wipe vs
    have upM : ∀ {H5 : Hp} {o : List (Key × V)}, H5 D = some (.dK acc) → Fm (fun b => M b ∨ b = D) H5 (upd H5 D (.dK o)) := fun {H5 v} hD5 c u z nm nt => by
      rw [upd_ne (show c ≠ D from fun w => nm (.inr w))]
      exact z
    have upE : ∀ {H5 : Hp} {o : List (Key × V)}, ExtN H1 H5 → ExtN H1 (upd H5 D (.dK o)) := fun {H5 v} e c u z nt => by
      rw [upd_ne (show c ≠ D from fun w => by
        subst w
        obtain ⟨ps, w⟩ := offD _ z
        exact nt ps w)]
      exact e c u z nt
    refine tg_ok tg reD dd ql fun σ2 ρ2 q2 re2 hw2 => ⟨by rw [hw2 vs hv, wipe_wipe], ?_⟩
    refine ⟨H0, M0, _, ρ2, noX, _, re2, XOk.no, q2, fun b H4 qb e4 t4 => ?_⟩
    have D4 : H4 D = some (.dK acc) := e4 _ _ D3 (fun ps q => by cases q)
    cases b with
    | false => exact ⟨((e2.trans e3).trans e4), t4, acc, ys, D4, by omega, DKs.fm (.of (e3.trans e4)) hys, qb⟩
    | true =>
      refine ⟨H0, M0, _, ρ2, noX, _, re2.grow e4 t4, XOk.no, qb, fun r v H5 qr e5 t5 rr => ?_⟩
      obtain ⟨t, ht, qt⟩ := rr.strong (re2.grow e4 t4).mdom qr
      have D5 : H5 D = some (.dK acc) := e5 _ _ D4 (fun ps q => by cases q)
      have re5 := (re2.grow e4 t4).grow e5 t5
      refine ⟨H0, M0, _, ρ2, noX, _, re5, XOk.no, qt, fun s u H6 qs e6 t6 rs => ?_⟩
      obtain ⟨z, hz, k', hkk, qz⟩ := rs.strong re5.mdom qs
      have D6 : H6 D = some (.dK acc) := e6 _ _ D5 (fun ps q => by cases q)
      have hw := key_of hkk (.inl (DM.fm (.of e6) ht))
      refine ⟨acc, k', hw, D6, by omega, upE ((((e2.trans e3).trans e4).trans e5).trans e6), tabs_updK t6 D6, putK acc k' u, putD ys k' z, upd_same, by have := putK_len acc k' u; show (putK acc k' u).length ≤ i + 1; omega, ?_, qz⟩
      exact DKs.fm (upM D6) ((DKs.fm (.of (((e3.trans e4).trans e5).trans e6)) hys).put k' hz)
  · rintro H2 ⟨e2, t2, acc, ys, hacc, hal, hys, ql⟩
    rw [List.drop_length] at ql
    exact k _ _ H2 ql (e1.trans e2) t2 ⟨D, acc, rfl, offD.back e1, hacc, hys⟩
/-- {k: v for tg in iter if ..} -/
theorem ev_dc {tg kx vx iter : Expr} {pos : Pos} {ifs : List Expr} {scope : Scope} {own : List (Str × Nat)} {it : WI} {g : Tg} {tt : WB} {tk tv : W} (hc : X.calm = true) (hN : X.N.Nodup) (hi : PI X tg iter (liftI (pm X T) E it)) (ok : BlkOk X.N X.env.scope scope own)
    (hv : ∀ i ∈ g.ix, i ∈ own.map (·.2))
    (hg : ∀ (s : Shared) (H : Hp) (C : Addr) (cl : List (Str × Addr)) (fp : List Addr), PG (X.blk s H scope (compEnvC scope cl C X.env) fp) tg (tgG X.K g))
    (ht : ∀ (s : Shared) (H : Hp) (C : Addr) (cl : List (Str × Addr)) (fp : List Addr), PTs (X.blk s H scope (compEnvC scope cl C X.env) fp) ifs (liftB (pm X T) E0 tt))
    (hk : ∀ (s : Shared) (H : Hp) (C : Addr) (cl : List (Str × Addr)) (fp : List Addr), PE (X.blk s H scope (compEnvC scope cl C X.env) fp) kx (lift (pm X T) E0 tk))
    (he : ∀ (s : Shared) (H : Hp) (C : Addr) (cl : List (Str × Addr)) (fp : List Addr), PE (X.blk s H scope (compEnvC scope cl C X.env) fp) vx (lift (pm X T) E0 tv)) (hs : ∀ x, foldedSetIterable iter X.env x = pure x := by intro _; rfl) :
    PE X (.DictComp kx vx [⟨tg, iter, ifs, 0⟩] scope pos) (lift (pm X T) E (wDc it g tt tk tv (own.map (·.2)))) :=
  PEimp (pe_dc hc hN hi ok hg ht hk he hs) fun _ _ _ h => dc_lift hv h
end
/-! what the pairs are -/
theorem dc_rule {tg : Tg} {tt : WB} {tk tv : W} {ρ : Env3} {Q : List (Key × PyData) → Prop} (I : List PyData → List (Key × PyData) → Prop) : ∀ (xs : List PyData) (acc : List (Key × PyData)), I xs acc → (∀ acc, I [] acc → Q acc) →
    (∀ x xs acc, I (x :: xs) acc → ∀ N : List (Key × PyData) → Prop, (∀ acc', I xs acc' → N acc') → tgW tg x ρ fun ρ' => tt ρ' (fun b => if b = true then tk ρ' (fun r => r.st fun t => tv ρ' (fun s => s.st fun y => ∃ k, keyOf t = some k ∧ N (putD acc k y)) noX) noX else N acc) noX) → dcL tg tt tk tv ρ Q xs acc
  | [], acc, h, e, _ => e acc h
  | x :: xs, acc, h, e, s => s x xs acc h (fun acc' => dcL tg tt tk tv ρ Q xs acc') fun acc' h' => dc_rule I xs acc' h' e s
end T3
set_option linter.all false
set_option maxRecDepth 100000
set_option maxHeartbeats 2000000
set_option Elab.async false
/-! T42: a lambda with one parameter that has a default (a whole number), handed to a def that calls it. -/
namespace T3
open L2 LamX PySem PyProof.Rows PySem.Spec
/-- what the lambda with a default looks like on the heap -/
abbrev dlObj (X : Cx) (params : Arguments) (body : Expr) (scope : Scope) (T₀ : Addr) (doc pm : Value) (c' : Addr) (ctv : Value) : Obj :=
  PySem.W.kdv_obj "<lambda>" (X.env.qual ++ "<lambda>") params (.expr body) scope (cloFrom X.env.cells scope.names []) (.ref T₀) doc pm c' ctv
section
variable {X : Cx} {pins : List (Addr × Obj)} {σ : L2.St} {H HZ : Hp} {s s1 : Shared}
theorem lamd_make {T : List (Addr × Str)} {c P : Addr} {params : Arguments} {body : Expr} {scope : Scope} {pos dpos : Pos} {n : Int} {E : Value → Shared → Prop} {Q : Value → Shared → Prop} (I : Inv X pins σ H s) (TB : TabB X.base X.mg c P) (hcode : X.env.code = .ref c)
    (hm : (P, X.env.qual ++ "<lambda>") ∈ T) (hu : ∀ p ∈ T, p.1 = P → p.2 = X.env.qual ++ "<lambda>") (hT : Tabs T H) (hdf : params.defaults = [.Constant (.int n) 0 dpos]) (hk0 : params.kw_defaults = []) (hfree : ∀ y ∈ scope.names, y.2 = .free → ∃ c, X.env.cells.lookup y.1 = some c)
    (h : ∀ (f T₀ c' : Addr) (u pm ctv doc : Value) (H1 : Hp) (s' : Shared), Inv X pins σ H1 s' → ExtN H H1 → Tabs T H1 →
      s'.heap.get? f = some (dlObj X params body scope T₀ doc pm c' ctv) → H1 f = none → f ∉ frs X.stack → s'.heap.get? T₀ = some (PySem.W.kdv_tup [u]) → H1 T₀ = none → T₀ ∉ frs X.stack → H1 c' = some (CodeO c' (X.env.qual ++ "<lambda>")) → Q (.ref f) s') :
    wpAny (model X.prog X.w) X.A (eval (.Lambda params body scope pos) X.env) Q E s := by
  refine PySem.W.kdv_lam (by rw [hdf]; rfl) hk0 ?_
  rw [hdf]
  refine PySem.W.kdv_all1 (thn ((pe_int (j := 0) (pos := dpos)).run pins s σ H (fun v H1 => v = .int n ∧ H1 = H) I ⟨rfl, rfl⟩) fun u s0 ⟨v, H1, I0, r1, q1⟩ => PySem.W.kdv_all0 ?_)
  obtain ⟨_, eH⟩ := q1
  subst eH
  rw [makeFunction_eq]
  simp only [List.zip_nil_right, List.filterMap_nil, List.isEmpty_nil, List.isEmpty_cons, if_true, pure_bind, Bool.false_eq_true, if_false]
  refine wpAny_bind (wpAny_newTextTuple ?_)
  obtain ⟨ps, hP, ht, ha⟩ := hT _ hm
  have I2 : Inv X pins σ H1 { s0 with heap := s0.heap.push (PySem.W.kdv_tup [u]) } := I0.kept (t' := s0.toks) fun b o e => Heap.get?_push_of_some _ e
  have hT0 : (s0.heap.push (PySem.W.kdv_tup [u])).get? s0.heap.objs.size = some (PySem.W.kdv_tup [u]) := Heap.get?_push_size _ rfl
  have bP : (s0.heap.push (PySem.W.kdv_tup [u])).BuiltinsAt X.mg P := TB.bm.keeps I2.bk
  have hP0 : s0.heap.get? P = some { cls := .none, data := .fields ps } := I0.hok P _ hP
  have hP' : (s0.heap.push (PySem.W.kdv_tup [u])).get? P = some { cls := .none, data := .fields ps } := I2.hok P _ hP
  have hPT : s0.heap.objs.size ≠ P := Nat.ne_of_gt (Heap.lt_size hP0)
  have nofr : ∀ f, s0.heap.objs.size ≤ f → f ∉ frs X.stack := fun f hf z => by
    rcases List.mem_cons.mp (I0.stkSub _ z) with e | e
    · have h1 := I0.lt
      rw [← e] at h1
      exact Nat.lt_irrefl _ (Nat.lt_of_lt_of_le h1 hf)
    · exact I0.nofs hf e
  have sz1 : (s0.heap.push (PySem.W.kdv_tup [u])).objs.size = s0.heap.objs.size + 1 := Heap.size_push _ _
  have nT0 : H1 s0.heap.objs.size = none := I0.hok.fresh (Nat.le_refl _)
  cases hc : codeAmong pos ps.toList with
  | none =>
    refine PySem.W.kdv_makeTail (mg := X.mg) (c := c) (P := P) (ps := ps) (closure_ok hfree) I.ok.glob (I.mod.glob.keeps I2.bk) hcode (TB.code.keeps I2.bk) hP' ht hc TB.gP bP fun c' ctv doc h' tk hx hge hlt hrec htb => ?_
    obtain ⟨c2, oc, vs, t, e2, hoc, hd, hv⟩ := hrec
    cases e2
    have hge2 : s0.heap.objs.size + 1 ≤ c' := by rw [← sz1]; exact hge
    have hsz : (s0.heap.push (PySem.W.kdv_tup [u])).objs.size ≤ h'.objs.size := Nat.le_trans hge (Nat.le_of_lt hlt)
    have hsz2 : s0.heap.objs.size + 1 ≤ h'.objs.size := by rw [← sz1]; exact hsz
    have nC : H1 c' = none := I2.hok.fresh hge
    have I1 := inv_table (t' := tk) (more := #[rawInt pos.line, rawInt pos.col, .ref c']) (h' := h'.push (dlObj X params body scope s0.heap.objs.size doc ((X.mg "__name__").getD .none) c' ctv)) I2 hP
      (fun b o hb e => Heap.get?_push_of_some _ (hx b o hb e)) (Heap.get?_push_of_some _ htb) hge ⟨oc, vs, t, Heap.get?_push_of_some _ hoc, hd, hv⟩
    have hE : ExtN H1 (upd (upd H1 P (.tbl (ps ++ #[rawInt pos.line, rawInt pos.col, .ref c']))) c' (CodeO c' (X.env.qual ++ "<lambda>"))) := fun b o e n => by
      rw [upd_ne (ne_of_none e nC), upd_ne (fun z => n ps (Option.some.inj (e.symm.trans (by rw [z]; exact hP))))]
      exact e
    have eL : (ps ++ #[rawInt pos.line, rawInt pos.col, .ref c']).toList = ps.toList ++ [rawInt pos.line, rawInt pos.col, .ref c'] := by simp
    have nT1 : s0.heap.objs.size ≠ c' := by omega
    refine h h'.objs.size s0.heap.objs.size c' u ((X.mg "__name__").getD .none) ctv doc _ _ I1 hE (fun p hp => ?_) (Heap.get?_push_size _ rfl) ?_ (nofr _ (by omega)) (Heap.get?_push_of_some _ (hx _ _ hPT hT0)) ?_ (nofr _ (Nat.le_refl _)) upd_same
    · by_cases hb : p.1 = P
      · rw [hu p hp hb, hb]
        refine ⟨_, by rw [upd_ne (ne_of_none hP nC), upd_same], by rw [eL]; exact PySem.TriplesOk_snoc _ _ _ _ ht, fun p' cv hcv => ?_⟩
        rw [eL] at hcv
        rcases among_app _ ht hcv with z | z
        · obtain ⟨c0, e1, e2⟩ := ha p' cv z
          exact ⟨c0, e1, hE _ _ e2 codeO_ne⟩
        · exact ⟨c', z, upd_same⟩
      · obtain ⟨ps', a1, a2, a3⟩ := hT p hp
        refine ⟨ps', by rw [upd_ne (ne_of_none a1 nC), upd_ne hb]; exact a1, a2, fun p' cv hcv => ?_⟩
        obtain ⟨c0, e1, e2⟩ := a3 p' cv hcv
        exact ⟨c0, e1, hE _ _ e2 codeO_ne⟩
    · have n1 : h'.objs.size ≠ c' := Nat.ne_of_gt hlt
      have n2 : h'.objs.size ≠ P := Nat.ne_of_gt (Nat.lt_of_lt_of_le (Heap.lt_size hP') hsz)
      rw [upd_ne n1, upd_ne n2]
      exact I2.hok.fresh hsz
    · rw [upd_ne nT1, upd_ne hPT]
      exact nT0
  | some cv =>
    obtain ⟨c', e, hco⟩ := ha pos cv hc
    subst e
    refine PySem.W.kdv_makeTailHit (mg := X.mg) (c := c) (P := P) (ps := ps) (closure_ok hfree) I.ok.glob (I.mod.glob.keeps I2.bk) hcode (TB.code.keeps I2.bk) hP' ht hc bP fun ctv doc h' tk hx hsz => ?_
    have hsz2 : s0.heap.objs.size + 1 ≤ h'.objs.size := by rw [← sz1]; exact hsz
    have I1 : Inv X pins σ H1 { s0 with heap := h'.push (dlObj X params body scope s0.heap.objs.size doc ((X.mg "__name__").getD .none) c' ctv), toks := tk } := I2.kept fun b o e => Heap.get?_push_of_some _ (hx b o e)
    exact h h'.objs.size s0.heap.objs.size c' u ((X.mg "__name__").getD .none) ctv doc H1 _ I1 (ExtN.refl H1) hT (Heap.get?_push_size _ rfl) (I2.hok.fresh hsz) (nofr _ (by omega)) (Heap.get?_push_of_some _ (hx _ _ hT0)) nT0 (nofr _ (Nat.le_refl _)) hco
end
/-- one parameter o that no name of the def around is; captured names and globals -/
structure LamD (N : List Str) (o : Str) (sc scope : Scope) : Prop where
  kind : scope.kind = .function
  co : scope.isCoroutine = false
  gen : scope.isGenerator = false
  own : ∀ y ∈ scope.names, (y.2 ≠ .local ∨ y.1 = o) ∧ y.2 ≠ .cell
  loc : scope.names.lookup o = some .local
  no : o ∉ N
  free : ∀ y ∈ scope.names, y.2 = .free → sc.names.lookup y.1 = some .cell ∨ sc.names.lookup y.1 = some .free
def lamDB (N : List Str) (o : Str) (sc scope : Scope) : Bool :=
  decide (scope.kind = .function) && !scope.isCoroutine && !scope.isGenerator && (scope.names.all fun y => (!decide (y.2 = .local) || y.1 == o) && !decide (y.2 = .cell) && (!decide (y.2 = .free) || decide (sc.names.lookup y.1 = some .cell) || decide (sc.names.lookup y.1 = some .free))) &&
    decide (scope.names.lookup o = some .local) && !N.contains o
theorem lamD_by {N : List Str} {o : Str} {sc scope : Scope} (h : lamDB N o sc scope = true) : LamD N o sc scope := by
  unfold lamDB at h
  simp only [Bool.and_eq_true, Bool.or_eq_true, Bool.not_eq_true', decide_eq_true_eq, decide_eq_false_iff_not, List.all_eq_true, beq_iff_eq] at h
  obtain ⟨⟨⟨⟨⟨h1, h2⟩, h3⟩, h4⟩, h5⟩, h6⟩ := h
  refine ⟨h1, h2, h3, fun y hy => ⟨(h4 y hy).1.1, (h4 y hy).1.2⟩, h5, fun hm => ?_, fun y hy e => ?_⟩
  · rw [List.contains_iff_mem.mpr hm] at h6
    cases h6
  · rcases (h4 y hy).2 with (z | z) | z
    · exact absurd e z
    · exact .inl z
    · exact .inr z
theorem LamD.has {X : Cx} {o : Str} {scope : Scope} (L : LamD X.N o X.env.scope scope) (ok : X.Ok) : ∀ y ∈ scope.names, y.2 = .free → ∃ c, X.env.cells.lookup y.1 = some c := fun y hy e => by
  rcases L.free y hy e with k | k
  · exact ok.has _ (.inl k)
  · exact ok.has _ (.inr k)
section
variable {X : Cx} {pins : List (Addr × Obj)} {σ : L2.St} {H HZ : Hp} {s s1 : Shared}
theorem lamd_start {A : Around} {outer : List Env} {E : XK} {o : Str} {scope : Scope} {f c' : Addr} {h₁ : Heap} {tk : Nat} {m : Str → Option Value} (I : Inv X pins σ H s) (L : LamD X.N o X.env.scope scope) (e0 : Env0 X.prog X.w X.K X.mg X.base A outer s1 HZ) (hd : A.handled = none)
    (un : Un (frs X.stack) [] H HZ s.heap s1.heap) (hns : h₁.Ns s1.heap.objs.size m) (kp : ∀ b o, s1.heap.get? b = some o → h₁.get? b = some o) :
    Inv (lamCx X A outer s1 HZ E scope f c') [] σ HZ { s1 with heap := h₁, toks := tk } := by
  have hfree := L.has I.ok
  have cm : ∀ {y c}, (cloFrom X.env.cells scope.names []).lookup y = some c → X.env.cells.lookup y = some c := fun {y c} e => by
    rcases cloFrom_mem (PySem.mem_of_lookup e) with hm | ⟨h1, h2⟩
    · cases hm
    · obtain ⟨c1, hc⟩ := hfree _ h1 rfl
      have hc : X.env.cells.lookup y = some c1 := hc
      have e2 : c = c1 := by
        rw [h2, hc] <;> rfl
      rw [e2]
      exact hc
  have look : ∀ {y}, scope.names.lookup y = some .free → ∃ c, (cloFrom X.env.cells scope.names []).lookup y = some c := fun {y} hl => by
    have hy : (y, NameKind.free) ∈ scope.names := PySem.mem_of_lookup hl
    exact mem_lookup (cloFrom_has (cells := X.env.cells) (acc := []) hy)
  have cellK : ∀ {c : Addr} {v : Option Value}, H c = none → s.heap.IsCell c v → h₁.IsCell c v := fun {c v} n ⟨o, ho, hd⟩ => by
    obtain ⟨sl, q⟩ := un.any ho n (by simp)
    exact ⟨_, kp _ _ q, hd⟩
  have noA : ∀ b : Addr, b ∉ (lamCx X A outer s1 HZ E scope f c').ex := fun b z => absurd (show b ∈ ([] : List Addr) from z) (by simp)
  refine ⟨⟨e0.mod, L.kind, rfl, rfl, Nat.le_refl _, fun y z c e1 e2 => I.ok.inj y z c (cm e1) (cm e2), fun y hy => ?_, fun y c z _ => ?_, fun _ => hd, Around.frames_deeper e0.frames, .inr ⟨rfl, rfl⟩, fun b z => absurd z (noA b), e0.bs, e0.bsz, fun b _ _ => noA b,
      fun b z => absurd z (noA b), e0.funs, e0.frf⟩,
    rfl, e0.bare, Un.kept kp, ⟨_, hns, fun i y v e1 e2 e3 => ?_⟩, fun y c e => ?_, e0.hok.fresh (Nat.le_refl _), fun y c e => ?_, fun q hq => absurd (show q ∈ ([] : List (Addr × Obj)) ++ [] from hq) (by simp), e0.hok.kept kp, I.len⟩
  · have hy : scope.names.lookup y = some .cell ∨ scope.names.lookup y = some .free := hy
    rcases hy with hy | hy
    · exact absurd rfl (L.own _ (PySem.mem_of_lookup hy)).2
    · exact look hy
  · have z : false = true := z
    cases z
  · have e3 : Vis scope y := e3
    have hyN : y ∈ X.N := List.mem_of_getElem? e1
    rcases e3 with k | k | k
    · rcases (L.own _ (PySem.mem_of_lookup k)).1 with z | z
      · exact absurd rfl z
      · have z : y = o := z
        rw [z] at hyN
        exact absurd hyN L.no
    · exact absurd rfl (L.own _ (PySem.mem_of_lookup k)).2
    · obtain ⟨m, hn, hl⟩ := I.loc
      have hvis : Vis X.env.scope y := (L.free _ (PySem.mem_of_lookup k) rfl).elim (fun k => .inr (.inl k)) (fun k => .inr (.inr k))
      obtain ⟨w', r, q⟩ := hl i y v e1 e2 hvis
      obtain ⟨c2, h2⟩ := look k
      refine ⟨w', r, .inr ⟨.inr k, c2, h2, ?_⟩⟩
      have c1 := cm h2
      rcases q with ⟨k', _⟩ | ⟨_, c3, e', z⟩
      · have k' : X.env.scope.names.lookup y = some .local := k'
        rcases L.free _ (PySem.mem_of_lookup k) rfl with k2 | k2 <;> rw [show X.env.scope.names.lookup y = _ from k2] at k' <;> cases k'
      · rw [c1] at e'
        cases e'
        exact cellK (I.freeC y _ c1) z
  · obtain ⟨w', z⟩ := I.cell y c (cm e)
    exact ⟨w', cellK (I.freeC y c (cm e)) z⟩
  · obtain ⟨v, o, ho, hd⟩ := I.cell y c (cm e)
    exact un.free c o ho (I.freeC y c (cm e)) (by simp)
/-- the binding of the default -/
def DBinds (params : Arguments) (body : Expr) (scope : Scope) (o : Str) : Prop := ∀ (q : Str) (cl : List (Str × Addr)) (T₀ : Addr) (u doc pm cv ctv : Value), ∃ k : Option (Array Value) → Sem (List (Str × Value)), bindArgs (PySem.W.kdv_fn "<lambda>" q params (.expr body) scope cl (.ref T₀) doc pm cv ctv) ⟨[], []⟩ = (seqItems? (.ref T₀) >>= k) ∧ k (some [u].toArray) = pure [(o, u)]
theorem pe_actD {CXg : CXT} {Eg : XK} {Ng : List Str} {qg : Str} {sg : Scope} {g f T₀ c' : Addr} {cdg u doc pm ctv : Value} {params : Arguments} {body : Expr} {o : Str} {scope : Scope} {k i : Nat} {a : Str} {pn : List (Addr × Obj)} {xe : Value → Shared → Prop} {W : WX} {E : XK} {tb : TE} {p1 p2 : Pos}
    (I : Inv X pins σ H s) (L : LamD X.N o X.env.scope scope) (hf : s.heap.get? f = some (dlObj X params body scope T₀ doc pm c' ctv)) (hfn : H f = none) (hfr : f ∉ frs X.stack) (hT : s.heap.get? T₀ = some (PySem.W.kdv_tup [u])) (hTn : H T₀ = none) (hTr : T₀ ∉ frs X.stack)
    (hbind : DBinds params body scope o)
    (tk : Takes ((cxOf CXg X.prog X.w X.K X.mg X.base Ng qg sg g cdg X.A X.stack s H Eg).tr pn xe) W) (hW : ∀ cls d σ' H', E cls d H' → W cls d σ' H') (hr : Room (k + 1) (X.A.deeper (envOfC qg sg s.heap.objs.size g cdg)))
    (hbody : ∀ (A : Around) (outer : List Env) (s : Shared) (H : Hp), Room k (A.deeper (lamEnv X scope s.heap.objs.size f c')) → PE (lamCx X A outer s H E scope f c') body tb)
    (hN : Ng[i]? = some a) (hv : Vis sg a) (hd : (a == ("__debug__" : Str)) = false := by decide) (hcd : (a == ("__classdict__" : Str)) = false := by decide) :
    PE ((cxOf CXg X.prog X.w X.K X.mg X.base Ng qg sg g cdg X.A X.stack s H Eg).tr pn xe) (.Call (.Name a p1) [] [] p2)
      (fun σZ HZ Q => σZ[i]? = some (some (.ref f)) ∧ HZ c' = some (CodeO c' (X.env.qual ++ "<lambda>")) ∧ tb σ HZ Q) := by
  refine ⟨fun pinsZ sZ σZ HZ Q IZ h => ?_⟩
  obtain ⟨hs, hc, ht⟩ := h
  refine wpAny_Call_Name_kw (thn ((pe_var (pos := p1) (i := i) hN hv hd hcd).run pinsZ sZ σZ HZ (fun v H1 => v = .ref f ∧ H1 = HZ) IZ ⟨.ref f, hs, rfl, rfl⟩) fun u1 s1 ⟨v, H1, I1, r1, q1⟩ => ?_)
  obtain ⟨ev, eH⟩ := q1
  subst ev
  rw [eH] at I1
  obtain rfl : u1 = Value.ref f := r1
  have of1 : s1.heap.get? f = some (dlObj X params body scope T₀ doc pm c' ctv) := I1.base.keep f _ hf hfn hfr (fun z => nomatch (show f ∈ ([] : List Addr) from z))
  have ot1 : s1.heap.get? T₀ = some (PySem.W.kdv_tup [u]) := I1.base.keep T₀ _ hT hTn hTr (fun z => nomatch (show T₀ ∈ ([] : List Addr) from z))
  refine PySem.W.callWith_F0 ⟨_, _, _, _, of1⟩ ?_
  have un : Un (frs X.stack) [] H HZ s.heap s1.heap := I1.base
  obtain ⟨⟨oc, vs, t, hoc, hdc, hvc⟩, _, _⟩ := I1.hok c' _ hc
  have rc : codeAny (model X.prog X.w) (X.A.deeper (envOfC qg sg s.heap.objs.size g cdg)) (.call (.ref f) ⟨[], []⟩) (CR (L2.CX X.prog X.w) (envOfC qg sg s.heap.objs.size g cdg :: X.stack) X.prog X.w HZ s1 Q E) s1 := by
    refine PySem.W.kla_callFunE hr.depth of1 rfl L.co L.gen rfl ⟨c', oc, vs, t, rfl, hoc, hdc, hvc⟩ ?_
    obtain ⟨kb, hb1, hb2⟩ := hbind (X.env.qual ++ "<lambda>") (cloFrom X.env.cells scope.names []) T₀ u doc pm (.ref c') ctv
    have bt : BindsTo s1 (PySem.W.kdv_fn "<lambda>" (X.env.qual ++ "<lambda>") params (.expr body) scope (cloFrom X.env.cells scope.names []) (.ref T₀) doc pm (.ref c') ctv) ⟨[], []⟩ [(o, u)] := BindsTo.of_defaults rfl ot1 rfl hb1 hb2
    refine bt _ _ _ _ ?_
    refine wpAny_newFunctionEnv (fun y hy => (L.own y hy).2) (fun y hy => ?_) (fun h₁ hns hsb => ⟨I1.nolimit.fresh _ hsb, ?_⟩) L.kind
    · have e : y = (o, u) := by simpa using hy
      rw [e]
      exact L.loc
    show codeAny _ _ (.expr body (lamEnv X scope s1.heap.objs.size f c')) _ _
    have kp : ∀ b o, s1.heap.get? b = some o → h₁.get? b = some o := fun b o e => hsb.extBut b o (Nat.ne_of_lt (Heap.lt_size e)) (Heap.get?_push_of_some _ e)
    have J := lamd_start (E := E) (f := f) (c' := c') (tk := s1.toks + [(o, u)].length) I L I1.env0 hr.hd un hns kp
    refine PySem.W.kla_codeExpr (wpAny_mono ((hbody _ _ s1 HZ (hr.deeper _)).run [] _ _ HZ Q J ht) (fun v s' hq => ?_) fun e s' hq => hq)
    obtain ⟨w', H', J', rv, q⟩ := hq
    exact ⟨w', H', J'.os, J'.bare, J'.base, J'.hok, rv, q⟩
  have hx : Passes (L2.CX X.prog X.w) ((cxOf CXg X.prog X.w X.K X.mg X.base Ng qg sg g cdg X.A X.stack s H Eg).tr pn xe) E := passes_call tk hW
  refine wpAny_call (codeAny_mono rc fun r s' hq => ?_)
  cases r with
  | error e => exact hx pinsZ σZ HZ s1 e s' I1 hq
  | ok fl =>
    cases fl with
    | ret u => exact I1.after hq
    | next => exact False.elim hq
    | brk => exact False.elim hq
    | cont => exact False.elim hq
end
section
variable {X : Cx}
/-- x(lambda o=n: body) -/
theorem pe_lamcallD {T : List (Addr × Str)} {TT : (XK → Hp → VK → Prop) → Hp → VK → Prop} {x a o : Str} {g c P : Addr} {k : Nat} {pg : Arguments} {bg : List Stmt} {sg : Scope} {dV kV doc pm cdv ct oc : Value} {an od : Option Addr} {osl : Array (Option Value)} {Ng : List Str}
    {params : Arguments} {body : Expr} {scope : Scope} {t : XK → TE} {p lpos pos dpos : Pos} {n : Int} (hg : Gl X x) (hm : X.mg x = some (.ref g)) (hk : PySem.W.keepIn X.K (.ref g) = true)
    (lk : X.K.lookup g = some ⟨oc, od, .func (PySem.W.fnOf x x pg bg sg dV kV doc pm an cdv ct), osl⟩) (hcg : PySem.W.codeIn X.K cdv x = true) (hb : L2.Binds X.K (PySem.W.fnOf x x pg bg sg dV kV doc pm an cdv ct) [a] []) (Sg : FnScope Ng [a] sg) (hNg : Ng[0]? = some a) (hva : Vis sg a)
    (hG : GivesTo X Ng x sg g cdv bg a (X.env.qual ++ "<lambda>") TT)
    (TB : TabB X.base X.mg c P) (hcode : X.env.code = .ref c) (hmT : (P, X.env.qual ++ "<lambda>") ∈ T) (hu : ∀ p ∈ T, p.1 = P → p.2 = X.env.qual ++ "<lambda>") (hr : Room (k + 2) X.A) (L : LamD X.N o X.env.scope scope) (hdf : params.defaults = [.Constant (.int n) 0 dpos]) (hk0 : params.kw_defaults = [])
    (hbind : DBinds params body scope o)
    (hbody : ∀ (A : Around) (outer : List Env) (s : Shared) (H : Hp) (E : XK) (f c' : Addr), Room k (A.deeper (lamEnv X scope s.heap.objs.size f c')) → PE (lamCx X A outer s H E scope f c') body (t E))
    (hdb : (x == ("__debug__" : Str)) = false := by decide) (hd : (a == ("__debug__" : Str)) = false := by decide) (hcd : (a == ("__classdict__" : Str)) = false := by decide) :
    PE X (.Call (.Name x p) [.Lambda params body scope lpos] [] pos) (tLam T TT t) := by
  refine ⟨fun pins s σ H Q I h => ?_⟩
  obtain ⟨hT, h⟩ := h
  refine wpAny_Call_Name_kw (ld_glob I hg hm ?_ hdb)
  refine PySem.W.callWith_K (h₀ := X.base) I.ok.mod.kin hk ?_ (by rfl) (by rfl)
  show wpAny _ _ (spliced ((false, eval (.Lambda params body scope lpos) X.env) :: backTo pos (starEach [] X.env))) _ _ s
  refine Calls.spliced_cons (lamd_make I TB hcode hmT hu hT hdf hk0 (L.has I.ok) fun f T₀ c' u pm' ctv doc' H1 s' I1 eN T1 hf hfn hfr hTo hTn hTr hco => ?_)
  refine Calls.spliced_nil ⟨I1.kIn, ?_⟩
  have rc : codeAny (model X.prog X.w) X.A (.call (.ref g) ⟨[.ref f], []⟩) (CR C8.CX0 X.stack X.prog X.w H1 s' Q C8.E0) s' := by
    refine run_ofS (N := Ng) (ps := [a]) (us := [.ref f]) (vs := [.ref f]) lk hcg Sg hr I1.env0 (hb s' [.ref f] I1.kIn rfl) (.cons rfl .nil) rfl fun hr' => ?_
    obtain ⟨t', ht', hq'⟩ := hG f c' s' H1 Q (fun E H' Q' => t E σ H' Q') (fun W pn xe E p1 p2 tk hW => pe_actD (i := 0) I1 L hf hfn hfr hTo hTn hTr hbind tk hW hr' (fun A outer s H hr2 => hbody A outer s H E f c' hr2) hNg hva hd hcd) hco (h H1 eN T1)
    exact ⟨t', ht'.nox, hq'⟩
  refine wpAny_call (codeAny_mono rc fun r s2 hq => ?_)
  cases r with
  | error e => exact (show False from hq).elim
  | ok fl =>
    cases fl with
    | ret u => exact I1.after hq
    | next => exact False.elim hq
    | brk => exact False.elim hq
    | cont => exact False.elim hq
end
/-! ### a word of what a call tells: the value, or a text for its error -/
def wWordV (wd : Exc → Option Str) (wc : W) : W := fun ρ Q _ => wc ρ (fun r => r.st fun x => Q (.d x)) (fun x => ∃ z, wd x = some z ∧ Q (.d (.str z)))
def TWordV (P : Pm) (wd : Exc → Option Str) : (XK → Hp → VK → Prop) → Hp → VK → Prop := fun tl H Q =>
  ∃ Ew : XK, (∀ cls d H', Ew cls d H' → ∃ x z, wd x = some z ∧ RX P (fun _ => False) x cls d H' ∧ Tabs P.T H' ∧ ∀ H'', ExtN H' H'' → Tabs P.T H'' → Q (.str z) H'') ∧ tl Ew H Q
section
variable {X : Cx} {T : List (Addr × Str)} {E : XK}
theorem wordV_lift {wd : Exc → Option Str} {wc : W} {σ : St} {H : Hp} {Q : VK} (h : lift (pm X T) E (wWordV wd wc) σ H Q) : tLam T (TWordV (pm X T) wd) (fun E' => lift (pm X T) E' wc) σ H Q := by
  obtain ⟨H0, M0, M, ρ, XW, Q3, re, xo, q, k⟩ := h
  refine ⟨re.tabs, fun H1 e1 t1 => ?_⟩
  refine ⟨fun cls d H' => ∃ x z, wd x = some z ∧ Q3 (.d (.str z)) ∧ ExtN H1 H' ∧ Tabs T H' ∧ RX (pm X T) M x cls d H', fun cls d H' ⟨x, z, hz, hq, e2, t2, rx⟩ => ⟨x, z, hz, rx.anti (fun _ z => z.elim), t2, fun H'' e3 t3 => k _ _ H'' hq ((e1.trans e2).trans e3) t3 (.str z)⟩, ?_⟩
  refine ⟨H0, M0, M, ρ, _, _, re.grow e1 t1, fun x cls d H' ⟨z, hz, hq⟩ e2 t2 rx => ⟨x, z, hz, hq, e2, t2, rx⟩, q, fun r v H' hq e2 t2 rr => ?_⟩
  obtain ⟨x, hx, qx⟩ := rr.strong (re.grow e1 t1).mdom hq
  exact k (.d x) v H' qx (e1.trans e2) t2 hx
end
end T3
set_option linter.all false
set_option maxRecDepth 100000
set_option maxHeartbeats 2000000
set_option Elab.async false
/-! T43: found = told / try: found = call() / except C as e: suite (that stores found) / return found. -/
namespace T3
open L2 LamX PySem PyProof.Rows PySem.Spec
theorem word_val {X : Cx} {T : List (Addr × Str)} {Ng : List Str} {x a wn en q told ck : Str} {sg : Scope} {g CK : Addr} {cdg : Value} {w i j : Nat} {b₀ : Stmt} {suite : List Stmt} {p1 p2 p3 p4 p5 p6 p7 p8 p9 p10 p11 p12 : Pos} {wd : Exc → Option Str} {ws : Addr → Exc → WS}
    (nd : Ng.Nodup) (hw : Ng[w]? = some wn) (hw0 : w ≠ 0) (hiw : i ≠ w) (hloc : Loc sg wn) (hdw : (wn == ("__debug__" : Str)) = false) (hcw : (wn == ("__classdict__" : Str)) = false) (hf : ∀ (s : Shared) (H : Hp), (wCx X Ng x sg g cdg s H).fn wn = true ∨ sg.names.lookup wn = some .local)
    (hi : Ng[i]? = some en) (hln : ∀ (s : Shared) (H : Hp), (wCx X Ng x sg g cdg s H).env.kindOf en = some .local) (hge : sg.names.lookup ck = some .globalImplicit) (hde : (ck == ("__debug__" : Str)) = false) (hck : X.mg ck = some (.ref CK))
    (h0 : ∀ f : Addr, (L2.start Ng [V.ref f])[0]? = some (some (V.ref f)))
    (hsu : ∀ (s : Shared) (H : Hp) (a : Addr) (oe : Obj) (cls : Value) (d : Option Addr) (pn : List (Addr × Obj)), Zc cls d oe → (∃ vs, oe.data = .fields vs) → ∀ y, Caught (pm X T) wd y cls d → PSs ((wCx X Ng x sg g cdg s H).suite a ((a, oe) :: pn)) (b₀ :: suite) (liftS (pm X T) C8.E0 (ws a y)))
    (hex : ∀ y z C, wd y = some z → X.mg y.name = some (.ref C) → PySem.W.exmOne X.K (.ref C) (.ref CK) = some true) (harg : ∀ y z, wd y = some z → y.arg = none)
    (hpure : ∀ (a : Addr) (y : Exc) (z : Str), wd y = some z → ws a y { nx := fun ρ => ρ[w]? = some (some (.d (.str z))), rt := fun _ => False } (errR Ng.length i a) noX)
    (hsw : ∀ (s : Shared) (H : Hp) (pn : List (Addr × Obj)) (xe : Value → Shared → Prop), swapsWith (.Call (.Name a p4) [] [] p5) (some (.Name wn p6)) p12.line ((wCx X Ng x sg g cdg s H).tr pn xe).env = pure false := by intros; rfl) :
    GivesTo X Ng x sg g cdg [.Assign [.Name wn p1] (.Constant (.str told) j p2) p3, .Try [.Assign [.Name wn p6] (.Call (.Name a p4) [] [] p5) p12] [.ExceptHandler (some (.Name ck p7)) (some en) (b₀ :: suite) p8] [] [] p9, .Return (some (.Name wn p10)) p11] a q (TWordV (pm X T) wd) := by
  intro f c' s H Q tl act hc ⟨Ew, hEw, h⟩
  have hv : Vis sg wn := hloc.elim .inl fun z => .inr (.inl z)
  have hwl : w < Ng.length := (List.getElem?_eq_some_iff.mp hw).1
  refine ⟨_, pss_cons (ps_set (X := wCx X Ng x sg g cdg s H) (i := w) nd hw hloc pe_str (by rfl) (hf s H)) (pss_cons (ps_try_as (X := wCx X Ng x sg g cdg s H) (c := .ref CK) (i := i)
      (tb := fun W D σ H => ∃ Ech : XK, (∀ cls d σ' H', Ech cls d H' → W cls d σ' H') ∧ σ[0]? = some (some (.ref f)) ∧ H c' = some (CodeO c' q) ∧ tl Ech H (fun v H' => D.nx (σ.set w (some v)) H'))
      (ts := tSuite (pm X T) Ng.length wd ws) rfl rfl nd hi (hln s H) ⟨hge, hde, .inl hck⟩ L2.takes0 (fun W pn xe tk _ => ?_) (fun a oe cls d pn hz hf => pss_suite rfl (hsu s H a oe cls d pn hz hf))) (pss_one (ps_ret (pe_var (i := w) hw hv hdw hcw)))), ?_⟩
  · refine ⟨fun pins s' σ H' D I h' => ?_⟩
    obtain ⟨Ech, hW, h1, h2, h3⟩ := h'
    exact (pss_one (ps_set (X := (wCx X Ng x sg g cdg s H).tr pn xe) (i := w) (pos := p12) (pos' := p6) nd hw hloc (act W pn xe Ech p4 p5 tk hW) (hsw s H pn xe) (hf s H))).run pins s' σ H' D I ⟨h1, h2, h3⟩
  · have e0 : ((L2.start Ng [V.ref f]).set w (some (V.str told)))[0]? = some (some (V.ref f)) := by
      rw [List.getElem?_set_ne hw0]
      exact h0 f
    refine ⟨Ew, fun cls d σ' H' he => ?_, e0, hc, ?_⟩
    · obtain ⟨y, z, hz, rx, t', mono⟩ := hEw cls d H' he
      have rx' := rx
      obtain ⟨C, g1, g2, _⟩ := rx'
      subst g2
      refine ⟨true, hex y z C hz g1, fun _ a' ha' hl => ?_, fun h => by cases h⟩
      refine ⟨y, caught_of hz (harg y z hz) rx, H', fun _ => False, fun _ => False, errR Ng.length i a', noX, _, re_err t' (by simpa using hl), hpure a' y z hz, fun ρ2 M2 H2 σ2 q re2 => ?_, fun _ _ _ _ q _ => q.elim, fun _ _ _ _ q _ => q.elim, fun _ _ _ _ q => False.elim q, fun _ _ _ q => False.elim q⟩
      obtain ⟨v, h1, h2⟩ := re2.slot w _ q
      cases h2
      exact ⟨.str z, by rw [List.getElem?_set_ne hiw]; exact h1, mono H2 re2.ext re2.tabs⟩
    · have e : Q = fun (v : V) (H' : Hp) => ∃ v', (((L2.start Ng [V.ref f]).set w (some (V.str told))).set w (some v))[w]? = some (some v') ∧ Q v' H' := by
        funext v H'
        have hl : w < ((L2.start Ng [V.ref f]).set w (some (V.str told))).length := by
          rw [List.length_set]
          unfold L2.start
          rw [List.length_append, List.length_map, List.length_replicate]
          show w < 1 + (Ng.length - 1)
          omega
        rw [List.getElem?_set_self hl]
        exact propext ⟨fun h => ⟨_, rfl, h⟩, fun ⟨v, e, h⟩ => by
          cases e
          exact h⟩
      rw [e] at h
      exact h
section
variable {X : Cx} {T : List (Addr × Str)} {E : XK} {p pos : Pos}
theorem ev_wordV {wd : Exc → Option Str} {wc : W} {x ar : Str} {st : Stmt} {Ng : List Str} {k : Nat} {params : Arguments} {body : Expr} {scope : Scope} {lpos : Pos} (Dg : Def X.K X.mg x st anyC) (hb : BindsBy x st [ar]) (Sg : FnScope Ng [ar] (defScope st)) (hNg : Ng[0]? = some ar) (hva : Vis (defScope st) ar)
    (hG : ∀ g cdv, GivesTo X Ng x (defScope st) g cdv (defBody st) ar (X.env.qual ++ "<lambda>") (TWordV (pm X T) wd)) (hg : Gl X x) (hc : PcL X.mg X.base T (X.env.qual ++ "<lambda>") X.env.code) (hr : Room (k + 2) X.A) (L : LamS X.env.scope scope) (hdef : defaultsOf params X.env = ([], []))
    (hbind : ∀ (q : Str) (cl : List (Str × Addr)) (pm cv ctv : Value), bindArgs (PySem.W.kla_fn "<lambda>" q params body scope cl pm cv ctv) ⟨[], []⟩ = pure [])
    (hbody : ∀ (A : Around) (outer : List Env) (s : Shared) (H : Hp) (E' : XK) (f c' : Addr), Room k (A.deeper (lamEnv X scope s.heap.objs.size f c')) → PE (lamCx X A outer s H E' scope f c') body (lift (pm X T) E' wc))
    (hdb : (x == ("__debug__" : Str)) = false := by decide) (hd : (ar == ("__debug__" : Str)) = false := by decide) (hcd : (ar == ("__classdict__" : Str)) = false := by decide) :
    PE X (.Call (.Name x p) [.Lambda params body scope lpos] [] pos) (lift (pm X T) E (wWordV wd wc)) := by
  obtain ⟨f, oc, od, kV, doc, pm', an, cdv, ct, osl, hm, lk, hcd', hk, _⟩ := Dg.ex
  obtain ⟨c, Pt, e1, TB, hT, hu⟩ := hc
  exact PEimp (pe_lamcall (T := T) hg hm hk lk hcd' (.all (hb kV doc pm' an cdv ct)) Sg hNg hva (hG f cdv) TB e1 hT hu hr L hdef hbind hbody hdb hd hcd) fun _ _ _ h => wordV_lift h
theorem ev_wordVD {wd : Exc → Option Str} {wc : W} {x ar o : Str} {st : Stmt} {Ng : List Str} {k : Nat} {params : Arguments} {body : Expr} {scope : Scope} {lpos dpos : Pos} {n : Int} (Dg : Def X.K X.mg x st anyC) (hb : BindsBy x st [ar]) (Sg : FnScope Ng [ar] (defScope st)) (hNg : Ng[0]? = some ar) (hva : Vis (defScope st) ar)
    (hG : ∀ g cdv, GivesTo X Ng x (defScope st) g cdv (defBody st) ar (X.env.qual ++ "<lambda>") (TWordV (pm X T) wd)) (hg : Gl X x) (hc : PcL X.mg X.base T (X.env.qual ++ "<lambda>") X.env.code) (hr : Room (k + 2) X.A) (L : LamD X.N o X.env.scope scope) (hdf : params.defaults = [.Constant (.int n) 0 dpos]) (hk0 : params.kw_defaults = [])
    (hbind : DBinds params body scope o)
    (hbody : ∀ (A : Around) (outer : List Env) (s : Shared) (H : Hp) (E' : XK) (f c' : Addr), Room k (A.deeper (lamEnv X scope s.heap.objs.size f c')) → PE (lamCx X A outer s H E' scope f c') body (lift (pm X T) E' wc))
    (hdb : (x == ("__debug__" : Str)) = false := by decide) (hd : (ar == ("__debug__" : Str)) = false := by decide) (hcd : (ar == ("__classdict__" : Str)) = false := by decide) :
    PE X (.Call (.Name x p) [.Lambda params body scope lpos] [] pos) (lift (pm X T) E (wWordV wd wc)) := by
  obtain ⟨f, oc, od, kV, doc, pm', an, cdv, ct, osl, hm, lk, hcd', hk, _⟩ := Dg.ex
  obtain ⟨c, Pt, e1, TB, hT, hu⟩ := hc
  exact PEimp (pe_lamcallD (T := T) hg hm hk lk hcd' (.all (hb kV doc pm' an cdv ct)) Sg hNg hva (hG f cdv) TB e1 hT hu hr L hdf hk0 hbind hbody hdb hd hcd) fun _ _ _ h => wordV_lift h
theorem ev_wordDD {told : Str} {wd : Exc → Option Str} {wc : W} {x ar o : Str} {st : Stmt} {Ng : List Str} {k : Nat} {params : Arguments} {body : Expr} {scope : Scope} {lpos dpos : Pos} {n : Int} (Dg : Def X.K X.mg x st anyC) (hb : BindsBy x st [ar]) (Sg : FnScope Ng [ar] (defScope st)) (hNg : Ng[0]? = some ar) (hva : Vis (defScope st) ar)
    (hG : ∀ g cdv, GivesTo X Ng x (defScope st) g cdv (defBody st) ar (X.env.qual ++ "<lambda>") (TWord (pm X T) told wd)) (hg : Gl X x) (hc : PcL X.mg X.base T (X.env.qual ++ "<lambda>") X.env.code) (hr : Room (k + 2) X.A) (L : LamD X.N o X.env.scope scope) (hdf : params.defaults = [.Constant (.int n) 0 dpos]) (hk0 : params.kw_defaults = [])
    (hbind : DBinds params body scope o)
    (hbody : ∀ (A : Around) (outer : List Env) (s : Shared) (H : Hp) (E' : XK) (f c' : Addr), Room k (A.deeper (lamEnv X scope s.heap.objs.size f c')) → PE (lamCx X A outer s H E' scope f c') body (lift (pm X T) E' wc))
    (hdb : (x == ("__debug__" : Str)) = false := by decide) (hd : (ar == ("__debug__" : Str)) = false := by decide) (hcd : (ar == ("__classdict__" : Str)) = false := by decide) :
    PE X (.Call (.Name x p) [.Lambda params body scope lpos] [] pos) (lift (pm X T) E (wWord told wd wc)) := by
  obtain ⟨f, oc, od, kV, doc, pm', an, cdv, ct, osl, hm, lk, hcd', hk, _⟩ := Dg.ex
  obtain ⟨c, Pt, e1, TB, hT, hu⟩ := hc
  exact PEimp (pe_lamcallD (T := T) hg hm hk lk hcd' (.all (hb kV doc pm' an cdv ct)) Sg hNg hva (hG f cdv) TB e1 hT hu hr L hdf hk0 hbind hbody hdb hd hcd) fun _ _ _ h => word_lift h
end
end T3
set_option linter.all false
set_option maxRecDepth 100000
set_option maxHeartbeats 2000000
set_option Elab.async false
/-! T44: a def that calls itself (no promise at depth nought); len of a dict. -/
namespace T3
open L2 LamX PySem PyProof.Rows PySem.Spec
theorem cal_none {g : Bool} {P : Program} {w : World} {K : PySem.W.Frag} {mg : Str → Option Value} {base : Heap} {T : List (Addr × Str)} {k : Nat} {x : Str} {st : Stmt} {ps : List Str} {Pc : Value → Prop} (D : Def K mg x st Pc) (hb : BindsBy x st ps) : Cal g P w K mg base T k x (fun _ _ _ => False) := by
  obtain ⟨f, oc, od, kV, doc, pm, an, cdv, ct, osl, hm, lk, hc, hk, hp⟩ := D.ex
  refine ⟨f, _, ps, ⟨fun vs H Q E ⟨M0, rs, Q3, X3, _, _, _, hC, _⟩ => hC.elim, fun A outer s H args us vs Q E _ _ _ _ _ hs => ?_⟩, .all (hb kV doc pm an cdv ct), hk, hm⟩
  obtain ⟨M0, rs, Q3, X3, _, _, _, hC, _⟩ := hs
  exact hC.elim
end T3
set_option linter.all false
set_option maxRecDepth 100000
set_option maxHeartbeats 2000000
set_option Elab.async false
/-! T45: names of the module that hold tuples of whole numbers and texts. -/
namespace T3
open L2 LamX PySem PyProof.Rows PySem.Spec
/-- a name that holds a tuple that always stays -/
structure TupC (K : PySem.W.Frag) (mg : Str → Option Value) (x : Str) (ds : List PyData) : Prop where
  ex : ∃ (a : Addr) (vs : List V), mg x = some (.ref a) ∧ SqT K (fun _ => none) a vs ∧ ∀ (M : Ad) (H : Hp), DMs K M H vs ds
inductive Pt where
  | int (i : Int) | str (x : Str)
def Pt.dv : Pt → He.Dv
  | .int i => .int i
  | .str x => .str x
def Pt.d : Pt → PyData
  | .int i => .int i
  | .str x => .str x
theorem pts_dms {K : PySem.W.Frag} {M : Ad} {H : Hp} : ∀ ps : List Pt, DMs K M H (ps.map fun p => He.Dv.v K p.dv) (ps.map Pt.d)
  | [] => .nil
  | .int i :: ps => .cons (.int i) (pts_dms ps)
  | .str x :: ps => .cons (.str x) (pts_dms ps)
theorem tupC_of {K : PySem.W.Frag} {mg : Str → Option Value} {x : Str} (ps : List Pt) (hm : mg x = some (.ref (He.ga K x))) (h : He.tupB K x (ps.map Pt.dv) = true) : TupC K mg x (ps.map Pt.d) := by
  refine ⟨_, _, hm, He.tupB_ok h (fun _ => none), fun M H => ?_⟩
  rw [List.map_map]
  exact pts_dms ps
section
variable {X : Cx} {T : List (Addr × Str)} {E : XK} {pos : Pos}
theorem ev_gtup {x : Str} {ds : List PyData} (hg : Gl X x) (h : TupC X.K X.mg x ds) (hd : (x == ("__debug__" : Str)) = false := by decide) : PE X (.Name x pos) (lift (pm X T) E (wC (.tuple ds))) := by
  obtain ⟨a, vs, h1, h2, h3⟩ := h.ex
  refine PEimp (pe_glob (v := .ref a) hg h1 rfl hd) fun σ H Q ⟨H0, M0, M, ρ, XW, Q3, re, xo, q, k⟩ => ?_
  exact k _ _ H q (ExtN.refl H) re.tabs (show DM _ _ _ _ _ from .tup (.inr h2) (h3 M H))
end
end T3
set_option linter.all false
set_option maxRecDepth 100000
set_option maxHeartbeats 2000000
set_option Elab.async false
/-! T46: zip of a list and a tuple. -/
namespace T3
open L2 LamX PySem PyProof.Rows PySem.Spec RZ
section
variable {prog : Program} {w : World} {A : Around} {E : Value → Shared → Prop} {s : Shared}
/-- the next pair -/
theorem zipM_item {z TI TO i1 i2 l1 l2 : Addr} {k1 k2 : Nat} {xs ys : Array Value} {x y a b : Value} {Q : Value → Shared → Prop} (D : ZipApart z TI TO i1 i2 l1 l2)
    (hz : IsZip s.heap z TI TO .none) (hTI : IsPair s.heap TI (.ref i1) (.ref i2)) (hTO : IsPair s.heap TO a b)
    (h1 : s.heap.IsListIter i1 l1 k1) (h2 : s.heap.IsTupleIter i2 l2 k2) (hl1 : s.heap.IsList l1 xs) (hl2 : s.heap.IsTuple l2 ys) (hx : xs[k1]? = some x) (hy : ys[k2]? = some y)
    (hQ : ∀ h', IsZip h' z TI TO (rawInt s.heap.objs.size) → IsPair h' TO x y → h'.IsListIter i1 l1 (k1 + 1) → h'.IsTupleIter i2 l2 (k2 + 1) → IsPair h' s.heap.objs.size x y → h'.objs.size = s.heap.objs.size + 1 →
      (∀ c o, c ≠ z → c ≠ TO → c ≠ i1 → c ≠ i2 → s.heap.get? c = some o → h'.get? c = some o) → Q (.ref s.heap.objs.size) { s with heap := h' }) :
    wpAny (model prog w) A (Builtin.«zip.__next__» ⟨[.ref z], []⟩) (fun fin s' => ∃ v, fin = .done (.ret v) ∧ Q v s') E s := by
  show wpAny _ _ (field (.ref z) 2 >>= _) _ _ _
  refine wpAny_bind (wpAny_field hz rfl (x := .bool false) rfl ?_)
  show wpAny _ _ (field (.ref z) 3 >>= _) _ _ _
  refine wpAny_bind (wpAny_field hz rfl (x := .ref TI) rfl ?_)
  refine wpAny_bind (wpAny_seqItems hTI rfl ?_)
  show wpAny _ _ (Builtin.SmallTypes.ownedTupleIsFree (.ref z) >>= _) _ _ _
  refine wpAny_bind ?_
  unfold Builtin.SmallTypes.ownedTupleIsFree
  refine wpAny_bind (wpAny_field hz rfl (x := .none) rfl (wpAny_pure ?_))
  simp only [if_true]
  refine wpAny_bind (wpAny_rule ?_)
  refine wpAny_bind (wpAny_field hz rfl (x := .ref TO) rfl ?_)
  refine wpAny_bind (wpAny_setField_rec hz (by simp) fun h₁ hz₁ hs₁ => ?_)
  replace hz₁ : IsZip h₁ z TI TO .ellipsis := hz₁
  refine wpAny_bind ?_
  simp only [List.zipIdx_cons, List.zipIdx_nil, List.forIn_cons, List.forIn_nil]
  refine wpAny_bind (wpAny_bind (wpAny_onRaise ?_))
  show wpAny _ _ (Builtin.SmallTypes.nextOf (.ref i1) >>= _) _ _ _
  refine wpAny_bind (wpAny_nextOf_list_item (h1.extBut hs₁.extBut D.i1z) (hl1.extBut hs₁.extBut D.l1z) hx fun h₂ h1₂ hs₂ => wpAny_pure ?_)
  have hTO₂ : IsPair h₂ TO a b := hs₂.extBut _ _ D.TOi1 (hs₁.extBut _ _ D.TOz hTO)
  refine wpAny_bind (wpAny_seqItems hTO₂ rfl ?_)
  refine wpAny_bind (wpAny_updateSeq_pair hTO₂ fun h₃ hTO₃ hs₃ => ?_)
  replace hTO₃ : IsPair h₃ TO x b := hTO₃
  refine wpAny_bind (wpAny_letGo (wpAny_pure ?_))
  refine wpAny_bind (wpAny_bind (wpAny_onRaise ?_))
  show wpAny _ _ (Builtin.SmallTypes.nextOf (.ref i2) >>= _) _ _ _
  refine wpAny_bind (nextOf_tuple_item (((h2.extBut hs₁.extBut D.i2z).extBut hs₂.extBut D.i12.symm).extBut hs₃.extBut D.TOi2.symm)
    (((hl2.extBut hs₁.extBut D.l2z).extBut hs₂.extBut D.l2i1).extBut hs₃.extBut D.l2TO) hy fun h₄ h2₄ hs₄ => wpAny_pure ?_)
  have hTO₄ : IsPair h₄ TO x b := hs₄.extBut _ _ D.TOi2 hTO₃
  refine wpAny_bind (wpAny_seqItems hTO₄ rfl ?_)
  refine wpAny_bind (wpAny_updateSeq_pair hTO₄ fun h₅ hTO₅ hs₅ => ?_)
  replace hTO₅ : IsPair h₅ TO x y := hTO₅
  refine wpAny_bind (wpAny_letGo (wpAny_pure (wpAny_pure ?_)))
  refine wpAny_bind (wpAny_seqItems hTO₅ rfl ?_)
  refine wpAny_bind (wpAny_newTuple ?_)
  have hsz : h₅.objs.size = s.heap.objs.size := by rw [hs₅.1, hs₄.1, hs₃.1, hs₂.1, hs₁.1]
  have hz₅ : IsZip h₅ z TI TO .ellipsis := hs₅.extBut _ _ D.TOz.symm (hs₄.extBut _ _ D.i2z.symm (hs₃.extBut _ _ D.TOz.symm (hs₂.extBut _ _ D.i1z.symm hz₁)))
  have hk₅ : ∀ c o, c ≠ z → c ≠ TO → c ≠ i1 → c ≠ i2 → s.heap.get? c = some o → h₅.get? c = some o := fun c o c1 c2 c3 c4 e =>
    hs₅.extBut _ _ c2 (hs₄.extBut _ _ c4 (hs₃.extBut _ _ c2 (hs₂.extBut _ _ c3 (hs₁.extBut _ _ c1 e))))
  have h1₅ : h₅.IsListIter i1 l1 (k1 + 1) := ((h1₂.extBut hs₃.extBut D.TOi1.symm).extBut hs₄.extBut D.i12).extBut hs₅.extBut D.TOi1.symm
  have h2₅ : h₅.IsTupleIter i2 l2 (k2 + 1) := h2₄.extBut hs₅.extBut D.TOi2.symm
  have hzlt : z < h₅.objs.size := Heap.lt_size hz₅
  show wpAny _ _ (Builtin.SmallTypes.ownedTupleHandOut (.ref z) (.ref h₅.objs.size) >>= _) _ _ _
  refine wpAny_bind ?_
  unfold Builtin.SmallTypes.ownedTupleHandOut
  have hz₆ : IsZip (h₅.push { cls := .type "tuple", data := .seq #[x, y] }) z TI TO .ellipsis := Heap.get?_push_of_some _ hz₅
  refine wpAny_bind (wpAny_setField_rec hz₆ (by simp) fun h₇ hz₇ hs₇ => ?_)
  replace hz₇ : IsZip h₇ z TI TO (rawInt h₅.objs.size) := hz₇
  refine wpAny_setField_rec hz₇ (by simp) fun h₈ hz₈ hs₈ => ?_
  replace hz₈ : IsZip h₈ z TI TO (rawInt h₅.objs.size) := hz₈
  have up : ∀ c o, c ≠ z → h₅.get? c = some o → h₈.get? c = some o := fun c o c1 e => hs₈.extBut _ _ c1 (hs₇.extBut _ _ c1 (Heap.get?_push_of_some _ e))
  have hT₈ : IsPair h₈ h₅.objs.size x y := hs₈.extBut _ _ (Nat.ne_of_gt hzlt) (hs₇.extBut _ _ (Nat.ne_of_gt hzlt) (Heap.get?_push_size _ rfl))
  have hz8 : h₈.objs.size = h₅.objs.size + 1 := by rw [hs₈.1, hs₇.1, Heap.size_push]
  rw [hsz] at hz₈ hT₈ hz8
  refine wpAny_pure ⟨_, rfl, ?_⟩
  show Q (.ref h₅.objs.size) _
  rw [hsz]
  exact hQ h₈ hz₈ (up _ _ D.TOz hTO₅) (h1₅.at fun o e => up _ o D.i1z e) (h2₅.at fun o e => up _ o D.i2z e) hT₈ hz8 fun c o c1 c2 c3 c4 e => up c o c1 (hk₅ c o c1 c2 c3 c4 e)
theorem zipM_end {z TI TO i1 i2 l1 l2 : Addr} {k1 k2 : Nat} {xs ys : Array Value} {a b : Value} {Q : Fin → Shared → Prop} (hh : A.handled = none) (D : ZipApart z TI TO i1 i2 l1 l2)
    (hz : IsZip s.heap z TI TO .none) (hTI : IsPair s.heap TI (.ref i1) (.ref i2)) (hTO : IsPair s.heap TO a b)
    (h1 : s.heap.IsListIter i1 l1 k1) (h2 : s.heap.IsTupleIter i2 l2 k2) (hl1 : s.heap.IsList l1 xs) (hl2 : s.heap.IsTuple l2 ys) (hend : xs[k1]? = none ∨ ys[k2]? = none)
    (hE : ∀ h' e, (∀ c o, c ≠ z → c ≠ TO → c ≠ i1 → c ≠ i2 → s.heap.get? c = some o → h'.get? c = some o) → (∃ o, h'.get? e = some o ∧ o.cls = .type "StopIteration") → E (.ref e) { s with heap := h' }) :
    wpAny (model prog w) A (Builtin.«zip.__next__» ⟨[.ref z], []⟩) Q E s := by
  show wpAny _ _ (field (.ref z) 2 >>= _) _ _ _
  refine wpAny_bind (wpAny_field hz rfl (x := .bool false) rfl ?_)
  show wpAny _ _ (field (.ref z) 3 >>= _) _ _ _
  refine wpAny_bind (wpAny_field hz rfl (x := .ref TI) rfl ?_)
  refine wpAny_bind (wpAny_seqItems hTI rfl ?_)
  show wpAny _ _ (Builtin.SmallTypes.ownedTupleIsFree (.ref z) >>= _) _ _ _
  refine wpAny_bind ?_
  unfold Builtin.SmallTypes.ownedTupleIsFree
  refine wpAny_bind (wpAny_field hz rfl (x := .none) rfl (wpAny_pure ?_))
  simp only [if_true]
  refine wpAny_bind (wpAny_rule ?_)
  refine wpAny_bind (wpAny_field hz rfl (x := .ref TO) rfl ?_)
  refine wpAny_bind (wpAny_setField_rec hz (by simp) fun h₁ hz₁ hs₁ => ?_)
  replace hz₁ : IsZip h₁ z TI TO .ellipsis := hz₁
  refine wpAny_bind ?_
  simp only [List.zipIdx_cons, List.zipIdx_nil, List.forIn_cons, List.forIn_nil]
  refine wpAny_bind (wpAny_bind (wpAny_onRaise ?_))
  show wpAny _ _ (Builtin.SmallTypes.nextOf (.ref i1) >>= _) _ _ _
  cases hx : xs[k1]? with
  | none =>
    refine wpAny_bind (wpAny_nextOf_list_end hh (h1.extBut hs₁.extBut D.i1z) (hl1.extBut hs₁.extBut D.l1z) hx fun h₂ e hs₂ he => ?_)
    obtain ⟨oe, hoe, hce⟩ := he
    have hz₂ : IsZip h₂ z TI TO .ellipsis := hs₂ _ _ D.i1z.symm hz₁
    have hez : e ≠ z := fun x => by subst x; rw [hz₂] at hoe; cases hoe; simp at hce
    refine wpAny_setField_rec hz₂ (by simp) fun h₃ _ hs₃ => hE h₃ e (fun c o c1 _ c3 _ x => hs₃.extBut _ _ c1 (hs₂ _ _ c3 (hs₁.extBut _ _ c1 x))) ⟨oe, hs₃.extBut _ _ hez hoe, hce⟩
  | some x =>
    have hy : ys[k2]? = none := by rcases hend with h | h; rw [hx] at h; cases h; exact h
    refine wpAny_bind (wpAny_nextOf_list_item (h1.extBut hs₁.extBut D.i1z) (hl1.extBut hs₁.extBut D.l1z) hx fun h₂ h1₂ hs₂ => wpAny_pure ?_)
    have hTO₂ : IsPair h₂ TO a b := hs₂.extBut _ _ D.TOi1 (hs₁.extBut _ _ D.TOz hTO)
    refine wpAny_bind (wpAny_seqItems hTO₂ rfl ?_)
    refine wpAny_bind (wpAny_updateSeq_pair hTO₂ fun h₃ hTO₃ hs₃ => ?_)
    refine wpAny_bind (wpAny_letGo (wpAny_pure ?_))
    refine wpAny_bind (wpAny_bind (wpAny_onRaise ?_))
    show wpAny _ _ (Builtin.SmallTypes.nextOf (.ref i2) >>= _) _ _ _
    refine wpAny_bind (nextOf_tuple_end hh (((h2.extBut hs₁.extBut D.i2z).extBut hs₂.extBut D.i12.symm).extBut hs₃.extBut D.TOi2.symm)
      (((hl2.extBut hs₁.extBut D.l2z).extBut hs₂.extBut D.l2i1).extBut hs₃.extBut D.l2TO) hy fun h₄ e hs₄ he => ?_)
    obtain ⟨oe, hoe, hce⟩ := he
    have hz₄ : IsZip h₄ z TI TO .ellipsis := hs₄ _ _ D.i2z.symm (hs₃.extBut _ _ D.TOz.symm (hs₂.extBut _ _ D.i1z.symm hz₁))
    have hez : e ≠ z := fun x => by subst x; rw [hz₄] at hoe; cases hoe; simp at hce
    refine wpAny_setField_rec hz₄ (by simp) fun h₅ _ hs₅ => hE h₅ e (fun c o c1 c2 c3 c4 x => hs₅.extBut _ _ c1 (hs₄ _ _ c4 (hs₃.extBut _ _ c2 (hs₂.extBut _ _ c3 (hs₁.extBut _ _ c1 x))))) ⟨oe, hs₅.extBut _ _ hez hoe, hce⟩
theorem nextM_item {z TI TO i1 i2 l1 l2 : Addr} {k1 k2 : Nat} {xs ys : Array Value} {x y a b : Value} {Q : Option Value → Shared → Prop} (D : ZipApart z TI TO i1 i2 l1 l2)
    (hz : IsZip s.heap z TI TO .none) (hTI : IsPair s.heap TI (.ref i1) (.ref i2)) (hTO : IsPair s.heap TO a b)
    (h1 : s.heap.IsListIter i1 l1 k1) (h2 : s.heap.IsTupleIter i2 l2 k2) (hl1 : s.heap.IsList l1 xs) (hl2 : s.heap.IsTuple l2 ys) (hx : xs[k1]? = some x) (hy : ys[k2]? = some y)
    (hQ : ∀ h', IsZip h' z TI TO (rawInt s.heap.objs.size) → IsPair h' TO x y → h'.IsListIter i1 l1 (k1 + 1) → h'.IsTupleIter i2 l2 (k2 + 1) → IsPair h' s.heap.objs.size x y → h'.objs.size = s.heap.objs.size + 1 →
      (∀ c o, c ≠ z → c ≠ TO → c ≠ i1 → c ≠ i2 → s.heap.get? c = some o → h'.get? c = some o) → Q (some (.ref s.heap.objs.size)) { s with heap := h' }) :
    wpAny (model prog w) A (pyNext (.ref z)) Q E s := by
  have hT : s.TypeIs (.ref z) "zip" := ⟨_, hz, rfl⟩
  unfold pyNext
  exact wpAny_bind (wpAny_attempt (wpAny_callSpecial?_slot (name := Str.ofString "__next__") hT F.slot_zip_next
    (wpAny_call_entry F.slot_zip_next hT F.entry_zip_next
      (zipM_item D hz hTI hTO h1 h2 hl1 hl2 hx hy fun h' a1 a2 a3 a4 a5 a6 a7 => wpAny_pure (hQ h' a1 a2 a3 a4 a5 a6 a7)) (F.args_zip_next_1 _))))
theorem nextM_end {z TI TO i1 i2 l1 l2 : Addr} {k1 k2 : Nat} {xs ys : Array Value} {a b : Value} {Q : Option Value → Shared → Prop} (hh : A.handled = none) (D : ZipApart z TI TO i1 i2 l1 l2)
    (hz : IsZip s.heap z TI TO .none) (hTI : IsPair s.heap TI (.ref i1) (.ref i2)) (hTO : IsPair s.heap TO a b)
    (h1 : s.heap.IsListIter i1 l1 k1) (h2 : s.heap.IsTupleIter i2 l2 k2) (hl1 : s.heap.IsList l1 xs) (hl2 : s.heap.IsTuple l2 ys) (hend : xs[k1]? = none ∨ ys[k2]? = none)
    (hQ : ∀ h', (∀ c o, c ≠ z → c ≠ TO → c ≠ i1 → c ≠ i2 → s.heap.get? c = some o → h'.get? c = some o) → Q none { s with heap := h' }) : wpAny (model prog w) A (pyNext (.ref z)) Q E s := by
  have hT : s.TypeIs (.ref z) "zip" := ⟨_, hz, rfl⟩
  unfold pyNext
  refine wpAny_bind (wpAny_attempt (wpAny_callSpecial?_slot (name := Str.ofString "__next__") hT F.slot_zip_next
    (wpAny_call_entry F.slot_zip_next hT F.entry_zip_next (zipM_end hh D hz hTI hTO h1 h2 hl1 hl2 hend fun h' e hk he => ?_) (F.args_zip_next_1 _))))
  obtain ⟨o, ho, hc⟩ := he
  refine wpAny_bind (wpAny_isInstance (T := "StopIteration") (b := true) ⟨o, ho, hc⟩ isSubtype_stop ?_)
  exact wpAny_pure (hQ _ hk)
end
abbrev zmH1 (h : Heap) (l1 : Addr) : Heap := h.push { cls := .type "list_iterator", data := .fields #[.ref l1, .int 0 0] }
abbrev zmH2 (h : Heap) (l1 l2 : Addr) : Heap := (zmH1 h l1).push { cls := .type "tuple_iterator", data := .fields #[.ref l2, .int 0 0] }
abbrev zmH3 (h : Heap) (l1 l2 : Addr) : Heap := (zmH2 h l1 l2).push { cls := .type "tuple", data := .seq #[.ref h.objs.size, .ref (zmH1 h l1).objs.size] }
abbrev zmH4 (h : Heap) (l1 l2 : Addr) : Heap := (zmH3 h l1 l2).push { cls := .type "tuple", data := .seq #[.none, .none] }
abbrev zmH5 (h : Heap) (l1 l2 : Addr) : Heap := (zmH4 h l1 l2).push { cls := .type "zip", data := .fields #[.none, .bool false, .bool false, .ref (zmH2 h l1 l2).objs.size, .ref (zmH3 h l1 l2).objs.size] }
theorem meets_zipM (l1 l2 : Addr) (xs ys : Array Value) :
    Meets (Builtin.«zip.__new__» ⟨[.type "zip", .ref l1, .ref l2], []⟩) (fun _ R s => s.heap.IsList l1 xs ∧ s.heap.IsTuple l2 ys ∧
      R (.ok (.ret (.ref (zmH4 s.heap l1 l2).objs.size))) { s with heap := zmH5 s.heap l1 l2 }) :=
  .of_wp fun prog w A R s h => by
    obtain ⟨hp, g, d, tk, os⟩ := s; obtain ⟨hl1, hl2, h⟩ := h
    have hsub := sub_zip
    have hL1 : Heap.IsList (Shared.heap ⟨hp, g, d, tk, os⟩) l1 xs := hl1
    have hL2 : Heap.IsTuple (Shared.heap ⟨hp.push { cls := .type "list_iterator", data := .fields #[.ref l1, .int 0 0] }, g, d, tk, os⟩) l2 ys := Heap.IsTuple.push hl2 _
    wp_walk using wpAny_pyIter_list hL1, wpAny_pyIter_tuple hL2
    exact ⟨_, rfl, h⟩
section
variable {prog : Program} {w : World} {A : Around} {E : Value → Shared → Prop} {s : Shared}
theorem call_zipM {l1 l2 : Addr} {xs ys : Array Value} {Q : Value → Shared → Prop} (hl1 : s.heap.IsList l1 xs) (hl2 : s.heap.IsTuple l2 ys)
    (h : ∀ h', IsZip h' (s.heap.objs.size + 4) (s.heap.objs.size + 2) (s.heap.objs.size + 3) .none → IsPair h' (s.heap.objs.size + 2) (.ref s.heap.objs.size) (.ref (s.heap.objs.size + 1)) →
      IsPair h' (s.heap.objs.size + 3) .none .none → h'.IsListIter s.heap.objs.size l1 0 → h'.IsTupleIter (s.heap.objs.size + 1) l2 0 → h'.objs.size = s.heap.objs.size + 5 →
      (∀ c o, s.heap.get? c = some o → h'.get? c = some o) → Q (.ref (s.heap.objs.size + 4)) { s with heap := h' }) :
    wpAny (model prog w) A (call (.type "zip") [.ref l1, .ref l2]) Q E s := by
  refine callType_new F.called_zip (by decide) (F.typeCall_zip_2 _ _) (F.newCall_zip_2 _ _) (fun obj => F.args_object_init_3 obj _ _) F.entry_zip_new
    (meets_zipM l1 l2 xs ys) ⟨hl1, hl2, ?_⟩
  have z1 : (zmH1 s.heap l1).objs.size = s.heap.objs.size + 1 := Heap.size_push ..
  have z2 : (zmH2 s.heap l1 l2).objs.size = s.heap.objs.size + 2 := by rw [Heap.size_push, z1]
  have z3 : (zmH3 s.heap l1 l2).objs.size = s.heap.objs.size + 3 := by rw [Heap.size_push, z2]
  have z4 : (zmH4 s.heap l1 l2).objs.size = s.heap.objs.size + 4 := by rw [Heap.size_push, z3]
  have z5 : (zmH5 s.heap l1 l2).objs.size = s.heap.objs.size + 5 := by rw [Heap.size_push, z4]
  have g5 : (zmH5 s.heap l1 l2).get? (zmH4 s.heap l1 l2).objs.size = some _ := Heap.get?_push_size _ rfl
  have g4 : (zmH5 s.heap l1 l2).get? (zmH3 s.heap l1 l2).objs.size = some _ := Heap.get?_push_of_some _ (Heap.get?_push_size _ rfl)
  have g3 : (zmH5 s.heap l1 l2).get? (zmH2 s.heap l1 l2).objs.size = some _ := Heap.get?_push_of_some _ (Heap.get?_push_of_some _ (Heap.get?_push_size _ rfl))
  have g2 : (zmH5 s.heap l1 l2).get? (zmH1 s.heap l1).objs.size = some _ := Heap.get?_push_of_some _ (Heap.get?_push_of_some _ (Heap.get?_push_of_some _ (Heap.get?_push_size _ rfl)))
  have g1 : (zmH5 s.heap l1 l2).get? s.heap.objs.size = some _ := Heap.get?_push_of_some _ (Heap.get?_push_of_some _ (Heap.get?_push_of_some _ (Heap.get?_push_of_some _ (Heap.get?_push_size _ rfl))))
  show _ ∧ _
  rw [z2, z3, z4] at g5
  rw [z1, z2] at g3
  rw [z3] at g4
  rw [z1] at g2
  rw [z4]
  exact ⟨⟨_, g5, rfl⟩, h _ g5 g3 g4 ⟨_, g1, rfl, rfl⟩ ⟨_, g2, rfl, rfl⟩ z5 fun c o x =>
    Heap.get?_push_of_some _ (Heap.get?_push_of_some _ (Heap.get?_push_of_some _ (Heap.get?_push_of_some _ (Heap.get?_push_of_some _ x))))⟩
end
/-- the list at a and the tuple at b as they stand at each turn, the items in new pairs -/
def ItzM (K : PySem.W.Frag) (a b : Addr) : It :=
  ⟨fun i H => ∃ (xs ys : List V) (x y : V), SqL K H a xs ∧ SqT K H b ys ∧ xs[i]? = some x ∧ ys[i]? = some y,
    fun i H v H' => ∃ T x y, v = .ref T ∧ H T = none ∧ H' = upd H T (.tup [x, y]) ∧ (∀ xs, SqL K H a xs → xs[i]? = some x) ∧ ∀ ys, SqT K H b ys → ys[i]? = some y,
    fun i H => ∃ xs ys : List V, SqL K H a xs ∧ SqT K H b ys ∧ (xs.length ≤ i ∨ ys.length ≤ i)⟩
theorem turn_zipM {P : Program} {w : World} {K : PySem.W.Frag} {elts : List Expr} {kk : Nat} {tpos : Pos} {a b z TI TO i1 i2 : Addr} (D : ZipApart z TI TO i1 i2 a b) :
    Turn P w K (.Tuple elts kk tpos) (ItzM K a b) [z, TI, TO, i1, i2] z (fun i h => IsZip h z TI TO .none ∧ IsPair h TI (.ref i1) (.ref i2) ∧ (∃ x y, IsPair h TO x y) ∧ h.IsListIter i1 a i ∧ h.IsTupleIter i2 b i) where
  mem := by simp
  obj := fun i h st c hc => by
    obtain ⟨hz, hTI, ⟨x, y, hTO⟩, ⟨o1, e1, _, d1⟩, ⟨o2, e2, _, d2⟩⟩ := st
    have e' : c = z ∨ c = TI ∨ c = TO ∨ c = i1 ∨ c = i2 := by simpa using hc
    rcases e' with q | q | q | q | q
    · rw [q]; exact ⟨_, hz, fun v q => nomatch q⟩
    · rw [q]; exact ⟨_, hTI, fun v q => nomatch q⟩
    · rw [q]; exact ⟨_, hTO, fun v q => nomatch q⟩
    · rw [q]; exact ⟨o1, e1, fun v q => by rw [d1] at q; cases q⟩
    · rw [q]; exact ⟨o2, e2, fun v q => by rw [d2] at q; cases q⟩
  keep := fun i h h' st k => by
    obtain ⟨hz, hTI, ⟨x, y, hTO⟩, h1, h2⟩ := st
    exact ⟨k z (by simp) _ hz, k TI (by simp) _ hTI, ⟨x, y, k TO (by simp) _ hTO⟩, h1.at fun o q => k i1 (by simp) o q, h2.at fun o q => k i2 (by simp) o q⟩
  item := by
    intro X hP hw hK hc i pins s σ H E I hf st hg
    subst hP hw hK
    obtain ⟨hz, hTI, ⟨x0, y0, hTO⟩, h1, h2⟩ := st
    obtain ⟨xs, ys, x, y, hqx, hqy, hx, hy⟩ := hg
    obtain ⟨its, rv, p, _⟩ := I.list hqx
    obtain ⟨its2, rv2, p2, _⟩ := I.tuple hqy
    obtain ⟨u, hu, ru⟩ := rv.get hx
    obtain ⟨u2, hu2, ru2⟩ := rv2.get hy
    have hzl : z < s.heap.objs.size := Heap.lt_size hz
    refine nextM_item D hz hTI hTO h1 h2 p.isList p2 (x := u) (y := u2) (by simpa using hu) (by simpa using hu2) fun h' z' TO' h1' h2' hT hsz hk => ?_
    refine ⟨_, rfl, wpAny_letOwnedTupleGo_zip (s := { s with heap := h' }) z' fun h'' z'' sb => ?_⟩
    have hT2 : h''.get? s.heap.objs.size = some { cls := .type "tuple", data := .seq #[u, u2] } := (sb.2 _ (Nat.ne_of_gt hzl)).trans hT
    have new : ObjOk X.prog X.w (upd H s.heap.objs.size (.tup [x, y])) h'' s.heap.objs.size (.tup [x, y]) :=
      ⟨by show 2 ≤ sizeLine; decide, [u, u2], .cons ru (.cons ru2 .nil), ⟨_, hT2, rfl, _, rfl⟩⟩
    have I1 : Inv X pins σ (upd H s.heap.objs.size (.tup [x, y])) { s with heap := h'' } :=
      I.turnedNew (t' := s.toks) (ch := [z, TI, TO, i1, i2]) (fun c o hb q => (sb.2 c (fun q' => hb (by simp [q']))).trans (hk c o (fun q' => hb (by simp [q'])) (fun q' => hb (by simp [q'])) (fun q' => hb (by simp [q'])) (fun q' => hb (by simp [q'])) q)) hf (Nat.le_refl _) new
    refine ⟨.ref s.heap.objs.size, _, I1, rfl, ⟨_, x, y, rfl, I.hok.fresh (Nat.le_refl _), rfl, fun l hl => by rw [I.list_inj hl hqx]; exact hx, fun l hl => by rw [I.tuple_inj hl hqy]; exact hy⟩, ⟨z'', ?_, ⟨u, u2, ?_⟩, ?_, ?_⟩, fun c hcm => ?_⟩
    · exact (sb.2 _ D.TIz).trans (hk _ _ D.TIz D.TITO D.TIi1 D.TIi2 hTI)
    · exact (sb.2 _ D.TOz).trans TO'
    · exact h1'.at fun o q => (sb.2 _ D.i1z).trans q
    · exact h2'.at fun o q => (sb.2 _ D.i2z).trans q
    · have hlt : c < s.heap.objs.size := by
        have e' : c = z ∨ c = TI ∨ c = TO ∨ c = i1 ∨ c = i2 := by simpa using hcm
        rcases e' with q | q | q | q | q
        · rw [q]; exact hzl
        · rw [q]; exact Heap.lt_size hTI
        · rw [q]; exact Heap.lt_size hTO
        · rw [q]; obtain ⟨_, e1, _⟩ := h1; exact Heap.lt_size e1
        · rw [q]; obtain ⟨_, e2, _⟩ := h2; exact Heap.lt_size e2
      rw [upd_ne (Nat.ne_of_lt hlt)]
      exact (hf c hcm).1
  done := by
    intro X hP hw hK hc i pins s σ H E I hf st hg
    subst hP hw hK
    obtain ⟨hz, hTI, ⟨x0, y0, hTO⟩, h1, h2⟩ := st
    obtain ⟨xs, ys, hqx, hqy, hend⟩ := hg
    obtain ⟨its, rv, p, _⟩ := I.list hqx
    obtain ⟨its2, rv2, p2, _⟩ := I.tuple hqy
    have l1 := rv.length
    have l2 := rv2.length
    have he : its.toArray[i]? = none ∨ its2.toArray[i]? = none := by
      rcases hend with q | q
      · exact .inl (by simp; omega)
      · exact .inr (by simp; omega)
    exact nextM_end (I.ok.hd hc) D hz hTI hTO h1 h2 p.isList p2 he fun h' hk => ⟨rfl, I.turnedL (t' := s.toks) (ch := [z, TI, TO, i1, i2]) (fun c o hb q =>
      hk c o (fun q' => hb (by simp [q'])) (fun q' => hb (by simp [q'])) (fun q' => hb (by simp [q'])) (fun q' => hb (by simp [q'])) q) hf⟩
  self := fun A i s Q E st h => wpAny_pyIter_zip st.1 h
def iZipM (K : PySem.W.Frag) (ta : TA) : TI := fun σ H R => ta σ H fun vs H1 => ∃ a b xs ys, vs = [.ref a, .ref b] ∧ SqL K H1 a xs ∧ SqT K H1 b ys ∧ R (ItzM K a b) H1
theorem pi_zipM {X : Cx} {e e2 : Expr} {ta : TA} {p pos tpos : Pos} {elts : List Expr} {kk : Nat} (hg : Gl X "zip") (hm : X.mg "zip" = none) (ha : PA X [e, e2] ta)
    (hs : starEach [e, e2] X.env = (false, eval e X.env) :: starEach [e2] X.env := by rfl) (hpl : (backTo pos (starEach [e2] X.env)).any (·.1) = false := by rfl) :
    PI X (.Tuple elts kk tpos) (.Call (.Name "zip" p) [e, e2] [] pos) (iZipM X.K ta) := by
  refine ⟨fun pins s σ H R I h => ?_⟩
  refine Call_ (ld_blt I hg hm PyProof.Rows.boot_zip (PyProof.Rows.callWith_type1 (thn (ha.run pos pins s σ H _ I h) fun us s1 ⟨vs, H1, I1, r1, q1⟩ => ?_) hs hpl))
  obtain ⟨a, b, xs, ys, ex, hqx, hqy, q⟩ := q1
  subst ex
  cases r1 with
  | cons r rr =>
    cases rr with
    | cons r' rr =>
      cases rr
      cases r
      cases r'
      have fresh5 : ∀ c, c ∈ [s1.heap.objs.size + 4, s1.heap.objs.size + 2, s1.heap.objs.size + 3, s1.heap.objs.size, s1.heap.objs.size + 1] → FpOk X pins H1 c := fun c hcm => by
        have e' : c = s1.heap.objs.size + 4 ∨ c = s1.heap.objs.size + 2 ∨ c = s1.heap.objs.size + 3 ∨ c = s1.heap.objs.size ∨ c = s1.heap.objs.size + 1 := by simpa using hcm
        have hle : s1.heap.objs.size ≤ c := by
          rcases e' with z | z | z | z | z
          · rw [z]; exact Nat.le_add_right _ _
          · rw [z]; exact Nat.le_add_right _ _
          · rw [z]; exact Nat.le_add_right _ _
          · rw [z]; exact Nat.le_refl _
          · rw [z]; exact Nat.le_add_right _ _
        exact I1.fpOk hle (I1.hok.fresh hle)
      obtain ⟨its, rv, p1, _⟩ := I1.list hqx
      obtain ⟨its2, rv2, p2, _⟩ := I1.tuple hqy
      obtain ⟨o2, ho2, _⟩ := id p2
      refine call_zipM p1.isList (show s1.heap.IsTuple b its2.toArray from p2) fun h' hz hTI hTO h1 h2 hsz hk => wpAny_pyIter_zip hz ?_
      have I2 : Inv X pins σ H1 { s1 with heap := h' } := I1.kept (t' := s1.toks) hk
      exact ⟨s1.heap.objs.size + 4, [s1.heap.objs.size + 4, s1.heap.objs.size + 2, s1.heap.objs.size + 3, s1.heap.objs.size, s1.heap.objs.size + 1], _, _, H1, rfl, I2, turn_zipM (PySem.W.ktu_apart s1.heap.objs.size a b p1.lt (Heap.lt_size ho2)), ⟨hz, hTI, ⟨_, _, hTO⟩, h1, h2⟩, fresh5, q⟩
theorem walk_zipM {K : PySem.W.Frag} {a b : Addr} {xs ys : List V} {n : Nat} (hn : n = min xs.length ys.length) : Walk (ItzM K a b) n (fun H => SqL K H a xs ∧ SqT K H b ys) (YPair (fun i => xs[i]?) (fun i => ys[i]?)) := by
  subst hn
  refine ⟨fun i _ hi q => ?_, fun _ q => ⟨xs, ys, q.1, q.2, by omega⟩, fun i H v H' _ q y => ?_⟩
  · have l1 : i < xs.length := by omega
    have l2 : i < ys.length := by omega
    exact ⟨xs, ys, xs[i], ys[i], q.1, q.2, by simp [l1], by simp [l2]⟩
  · obtain ⟨tp, u, z, y1, y2, y3, y4, y5⟩ := y
    exact ⟨tp, u, z, y1, y2, y3, y4 xs q.1, y5 ys q.2⟩
/-- zip(a, b), a a list and b a tuple -/
def wIzM (a b : W) : WI := fun ρ Q X => a ρ (fun r => r.sq fun w1 t1 xs => b ρ (fun s => s.sq fun w2 t2 ys => (t1 = false ∧ t2 = true) ∧ Q (w1 || w2) (zipD xs ys)) X) X
section
variable {X : Cx} {T : List (Addr × Str)} {E : XK} {a b : Expr} {p pos : Pos}
theorem ei_zipM {wa wb : W} {tpos : Pos} {elts : List Expr} {kk : Nat} (hg : Gl X "zip") (hm : X.mg "zip" = none) (ha : PE X a (lift (pm X T) E wa)) (hb : PE X b (lift (pm X T) E wb)) (hs : starEach [a, b] X.env = (false, eval a X.env) :: starEach [b] X.env := by rfl) (hs2 : starEach [b] X.env = (false, eval b X.env) :: starEach [] X.env := by rfl) (hpl : (backTo pos (starEach [b] X.env)).any (·.1) = false := by rfl) :
    PI X (.Tuple elts kk tpos) (.Call (.Name "zip" p) [a, b] [] pos) (liftI (pm X T) E (wIzM wa wb)) := by
  refine PIimp (pi_zipM hg hm (pa_cons (PElen ha) (pa_cons (PElen hb) pa_nil hs2) hs) hs hpl) fun σ H R ⟨H0, M0, M, ρ, XW, Q3, re, xo, q, k⟩ => ?_
  refine ⟨H0, M0, M, ρ, XW, _, re, xo, q, fun r v H1 qr e1 t1 rr len => ?_⟩
  obtain ⟨a1, vs, w1, t, xs, rfl, sq, qx⟩ := rr.sq re.mdom qr
  have re1 := re.grow e1 t1
  refine ⟨H0, M0, M, ρ, XW, _, re1, xo.grow e1, qx, fun s u H2 qs e2 t2 rs len2 => ?_⟩
  obtain ⟨b1, us, w2, t', ys, rfl, sq2, ⟨et, et'⟩, qy⟩ := rs.sq re1.mdom qs
  subst et et'
  have hl : (zipD xs ys).length ≤ sizeLine := by
    rw [zipD_len]
    have := len _ _ rfl sq.sq
    have := sq.2.length
    omega
  have sq := sq.ext e2
  have yields : ∀ {F H3 H4 : Hp} {v : V} {M' : Ad} {i : Nat}, DMs X.K M F vs xs → DMs X.K M F us ys → ExtN F H3 → (∀ c, M' c → M c ∨ Off F c) → (∀ c, M' c → ¬ Off H3 c) → YPair (fun i => vs[i]?) (fun i => us[i]?) i H3 v H4 → ExtN H3 H4 ∧ (Tabs T H3 → Tabs T H4) ∧ ∃ d, (zipD xs ys)[i]? = some d ∧ DM X.K M' H4 v d := by
    rintro F H3 H4 v M' i d1 d2 e m md ⟨tp, u, z, rfl, hT, rfl, hu, hz⟩
    obtain ⟨x, hx, dx⟩ := d1.get hu
    obtain ⟨y, hy, dy⟩ := d2.get hz
    exact ⟨ext_new hT, fun t => tabs_new t hT, _, zipD_at hx hy, pair_new md hT (dx.off e m) (dy.off e m)⟩
  refine ⟨a1, b1, vs, us, rfl, SqL.of sq.1.1, TupM.sq sq2.1, k (w1 || w2) _ _ H2 qy (e1.trans e2) t2 hl fun F h1 h2 => ?_⟩
  have z1 : SqAt X.K M F w1 false a1 vs xs := sq.part (fun z => by
    cases w2 with
    | false => exact h1 (by rw [z]; rfl)
    | true => rw [h2 (by simp)]; exact Fm.refl) fun z => h2 (by rw [z]; rfl)
  have z2 : SqAt X.K M F w2 true b1 us ys := sq2.part (fun z => by
    cases w1 with
    | false => exact h1 (by rw [z]; rfl)
    | true => rw [h2 (by simp)]; exact Fm.refl) fun z => h2 (by rw [z]; simp)
  exact ⟨⟨_, _, walk_zipM (xs := vs) (ys := us) (by rw [zipD_len, sq.2.length, sq2.2.length]), fun H3 e => ⟨SqL.of (e _ _ z1.1.1 (fun ps q => by cases q)), sqT_ext e (TupM.sq z2.1)⟩, fun i H3 x H4 M' _ e m md y => yields z1.2 z2.2 e m md y⟩⟩
end
end T3
set_option linter.all false
set_option maxRecDepth 100000
set_option maxHeartbeats 2000000
set_option Elab.async false
/-! T47: comprehensions over mapped lists. -/
namespace T3
open L2 LamX PySem PyProof.Rows PySem.Spec
theorem made_mapm {α : Type} {F G : α → PyData} (hF : ∀ a b, F a = F b → G a = G b) : ∀ (as : List α) {ys : List PyData}, Made (fun x o => ∃ a, x = F a ∧ o = some (G a)) (as.map F) ys → ys = as.map G := by
  intro as
  induction as with
  | nil => intro ys h; cases h; rfl
  | cons a as ih =>
    intro ys h
    rw [List.map_cons] at h
    cases h with
    | keep h1 h2 =>
      obtain ⟨b, e1, e2⟩ := h1
      injection e2 with e2
      rw [e2, ih h2, List.map_cons, hF a b e1]
    | drop h1 h2 =>
      obtain ⟨b, _, e2⟩ := h1
      cases e2
theorem lc_mapm {α : Type} {tg : Tg} {te : W} {ρ : Env3} {Q : List PyData → Prop} (F G : α → PyData) (as : List α) (hF : ∀ a b, F a = F b → G a = G b)
    (h : ∀ a ∈ as, ∀ k : PyData → Prop, k (G a) → tgW tg (F a) ρ fun ρ' => te ρ' (fun r => r.st k) noX) (q : Q (as.map G)) : lcL tg wYes te ρ Q (as.map F) [] :=
  lc_rule (fun x o => ∃ a, x = F a ∧ o = some (G a)) (as.map F) [] (fun x hx k hk => by
    obtain ⟨a, ha, rfl⟩ := List.mem_map.mp hx
    exact h a ha (fun y => k (some y)) (hk _ ⟨a, rfl, rfl⟩)) fun ys hy => by
    rw [made_mapm hF as hy]
    exact q
theorem zipD_map {α β : Type} (F : α → PyData) (G : β → PyData) : ∀ (as : List α) (bs : List β), zipD (as.map F) (bs.map G) = (as.zip bs).map fun p => .tuple [F p.1, G p.2]
  | [], [] => rfl
  | [], _ :: _ => rfl
  | _ :: _, [] => rfl
  | a :: as, b :: bs => by
    show PyData.tuple [F a, G b] :: zipD (as.map F) (bs.map G) = _
    rw [zipD_map F G as bs]
    rfl
theorem zipW_zip {α β γ : Type} (f : α → β → γ) : ∀ (as : List α) (bs : List β), List.zipWith f as bs = (as.zip bs).map fun p => f p.1 p.2
  | [], [] => rfl
  | [], _ :: _ => rfl
  | _ :: _, [] => rfl
  | a :: as, b :: bs => by
    show f a b :: List.zipWith f as bs = f a b :: (as.zip bs).map fun p => f p.1 p.2
    rw [zipW_zip f as bs]
theorem zipD_self (xs : List PyData) : zipD xs xs = xs.map fun x => .tuple [x, x] := by
  have := zipD_map (fun x => x) (fun x => x) xs xs
  rw [List.map_id'] at this
  rw [this]
  clear this
  induction xs with
  | nil => rfl
  | cons x xs ih =>
    show PyData.tuple [x, x] :: (xs.zip xs).map _ = _
    rw [ih]
    rfl
end T3
set_option linter.all false
set_option maxRecDepth 100000
set_option maxHeartbeats 2000000
set_option Elab.async false
/-! T48: comprehensions with a test over mapped lists; lists of places. -/
namespace T3
open L2 LamX PySem PyProof.Rows PySem.Spec
theorem made_filtm {α : Type} {F G : α → PyData} {p : α → Bool} (hF : ∀ a b, F a = F b → p a = p b ∧ G a = G b) : ∀ (as : List α) {ys : List PyData}, Made (fun x o => ∃ a, x = F a ∧ o = if p a = true then some (G a) else none) (as.map F) ys → ys = (as.filter p).map G := by
  intro as
  induction as with
  | nil => intro ys h; cases h; rfl
  | cons a as ih =>
    intro ys h
    rw [List.map_cons] at h
    cases h with
    | keep h1 h2 =>
      obtain ⟨b, e1, e2⟩ := h1
      obtain ⟨z1, z2⟩ := hF a b e1
      by_cases c : p b = true
      · rw [if_pos c] at e2
        injection e2 with e2
        rw [List.filter_cons, if_pos (z1.trans c), List.map_cons, ih h2, e2, z2]
      · rw [if_neg c] at e2
        cases e2
    | drop h1 h2 =>
      obtain ⟨b, e1, e2⟩ := h1
      obtain ⟨z1, z2⟩ := hF a b e1
      by_cases c : p b = true
      · rw [if_pos c] at e2
        cases e2
      · rw [List.filter_cons, if_neg (fun q => c (z1.symm.trans q)), ih h2]
theorem lc_filtm {α : Type} {tg : Tg} {tt : WB} {te : W} {ρ : Env3} {Q : List PyData → Prop} (F G : α → PyData) (p : α → Bool) (as : List α) (hF : ∀ a b, F a = F b → p a = p b ∧ G a = G b)
    (h : ∀ a ∈ as, ∀ k : Option PyData → Prop, k (if p a = true then some (G a) else none) → tgW tg (F a) ρ fun ρ' => tt ρ' (fun b => if b = true then te ρ' (fun r => r.st fun y => k (some y)) noX else k none) noX) (q : Q ((as.filter p).map G)) : lcL tg tt te ρ Q (as.map F) [] :=
  lc_rule (fun x o => ∃ a, x = F a ∧ o = if p a = true then some (G a) else none) (as.map F) [] (fun x hx k hk => by
    obtain ⟨a, ha, rfl⟩ := List.mem_map.mp hx
    exact h a ha k (hk _ ⟨a, rfl, rfl⟩)) fun ys hy => by
    rw [made_filtm hF as hy]
    exact q
abbrev natI (ws : List Nat) : List Int := ws.map fun (i : Nat) => (i : Int)
theorem nat_mem {ws : List Nat} {i : Nat} : (i : Int) ∈ natI ws ↔ i ∈ ws := by
  rw [List.mem_map]
  constructor
  · rintro ⟨j, hj, e⟩
    have : j = i := by omega
    rw [← this]
    exact hj
  · exact fun h => ⟨i, h, rfl⟩
theorem nats_back {ns : List Int} (h : ∀ n ∈ ns, 0 ≤ n) : ∃ ws : List Nat, ns = natI ws := by
  refine ⟨ns.map Int.toNat, ?_⟩
  show ns = (ns.map Int.toNat).map fun (i : Nat) => (i : Int)
  rw [List.map_map]
  have : ∀ n ∈ ns, ((fun (i : Nat) => (i : Int)) ∘ Int.toNat) n = id n := fun n hn => Int.toNat_of_nonneg (h n hn)
  rw [List.map_congr_left this, List.map_id]
theorem any_nats (xs : List Nat) (k : Nat) : (((natI xs).map PyData.int).any fun z => PyData.eqv z (.int (k : Int))) = decide (k ∈ xs) := by
  rw [any_ints]
  exact decide_eq_decide.mpr nat_mem
theorem natI_inj {a b : List Nat} (h : natI a = natI b) : a = b := List.map_inj_right (fun a b h => by omega) |>.mp h
theorem rg_map (n : Nat) : rgD 0 (n : Int) = (List.range n).map fun (i : Nat) => PyData.int (i : Int) := by
  unfold rgD
  simp
theorem bools_all {α : Type} (p : α → Bool) (as : List α) : ∃ bs : List Bool, (as.map fun a => PyData.bool (p a)) = bs.map .bool ∧ bs.all id = as.all p := ⟨as.map p, by rw [List.map_map]; rfl, by rw [List.all_map]; rfl⟩
theorem nats_ints (ws : List Nat) : (natI ws).map PyData.int = ws.map fun (i : Nat) => PyData.int (i : Int) := by
  rw [List.map_map]
  rfl
/-- max([0] + ..) and the like -/
theorem best_is {ns : List Int} {k : R → Prop} (h0 : 0 < ns.length) (h : ∀ m, m ∈ ns → (∀ y ∈ ns, y ≤ m) → k (.d (.int m))) : maxD [.list (ns.map .int)] k := ⟨ns, rfl, h0, h⟩
theorem mem_cut {α : Type} {xs : List α} {lo hi : Option Int} {x : α} (h : x ∈ cut xs lo hi) : x ∈ xs := List.mem_of_mem_drop (List.mem_of_mem_take h)
theorem cut_le {α : Type} (xs : List α) (lo hi : Option Int) : (cut xs lo hi).length ≤ xs.length := by
  unfold T3.cut
  rw [List.length_take, List.length_drop]
  omega
end T3
set_option linter.all false
set_option maxRecDepth 100000
set_option maxHeartbeats 2000000
set_option Elab.async false
/-! T49: len of a dict. -/
namespace T3
open L2 LamX PySem PyProof.Rows PySem.Spec
def lenK : OpL := fun xs k => match xs with
  | [.dict ps] => ∀ kvs, ps = dictD kvs → k (.d (.int kvs.length))
  | _ => False
section
variable {X : Cx} {T : List (Addr × Str)}
theorem cr_lenK : CallR X (.builtin "len") (rDs (pm X T) lenK) := CallRimp call_lenD fun vs H Q h => by
  obtain ⟨M, ds, Q3, hm, ht, hp, q, k⟩ := h
  unfold lenK at q
  split at q
  · next ps =>
    obtain ⟨v, rfl, h⟩ := one_of hp
    obtain ⟨kvs, a, kws, e, rfl, hc, hd⟩ := h.dct
    refine ⟨a, kws, rfl, hc, ?_⟩
    have z := q kvs e
    rw [← hd.length] at z
    exact k _ _ _ z (ExtN.refl H) ht (.int _)
  · exact q.elim
end
theorem len_dict {kvs : List (Key × PyData)} {k : R → Prop} (h : k (.d (.int kvs.length))) : lenK [.dict (dictD kvs)] k := fun _ e => by
  rw [← dictD_inj e]
  exact h
end T3
set_option linter.all false
set_option maxRecDepth 100000
set_option maxHeartbeats 400000
set_option Elab.async false
namespace T3.K23
open L2 LamX PySem PyProof.Rows PySem.Spec
/-! ## The text: defs, names -/
def top (i : Nat) : Stmt := PySem.Challenge.pw_kitchenhall_k23_whole_when_steps_begin_a.main.body.getD i (.Pass ⟨0, 0, 0, 0⟩)
abbrev s_is_integer : Stmt := top 1
abbrev s_is_within : Stmt := top 2
abbrev s_is_sized : Stmt := top 3
abbrev s_are_rising : Stmt := top 4
abbrev s_is_lot : Stmt := top 5
abbrev s_is_step : Stmt := top 13
abbrev s_is_stepped : Stmt := top 14
abbrev s_check_dish : Stmt := top 15
abbrev s_raw_order : Stmt := top 16
abbrev s_check_ordered : Stmt := top 17
abbrev s_raw_begins : Stmt := top 18
abbrev s_raw_least : Stmt := top 19
abbrev s_raw_latest : Stmt := top 20
abbrev s_begins : Stmt := top 21
abbrev s_least_minutes : Stmt := top 22
abbrev s_latest_begins : Stmt := top 23
abbrev s_slack : Stmt := top 24
abbrev s_law_hand : Stmt := top 26
abbrev s_law_draw : Stmt := top 27
abbrev s_law_any : Stmt := top 28
abbrev s_law_is : Stmt := top 29
abbrev s_law_word : Stmt := top 30
abbrev s_law_dish : Stmt := top 31
abbrev s_law_begins : Stmt := top 32
abbrev s_law_end : Stmt := top 33
abbrev s_law_latest : Stmt := top 34
abbrev s_law_case_right : Stmt := top 35
abbrev s_law : Stmt := top 36
def errL : List Str := ["NoDish", "NoOrder"]
def clsL : List Str := ["KitchenError", "NoDish", "NoOrder"]
def isa (x y : Str) : Bool := x == y || y == "KitchenError"
structure Txt (K : PySem.W.Frag) (mg : Str → Option Value) (base : Heap) (T : List (Addr × Str)) : Prop where
  d_is_integer : Def K mg "is_integer" s_is_integer anyC
  d_is_within : Def K mg "is_within" s_is_within anyC
  d_is_sized : Def K mg "is_sized" s_is_sized anyC
  d_are_rising : Def K mg "are_rising" s_are_rising anyC
  d_is_lot : Def K mg "is_lot" s_is_lot anyC
  d_is_step : Def K mg "is_step" s_is_step anyC
  d_is_stepped : Def K mg "is_stepped" s_is_stepped anyC
  d_check_dish : Def K mg "check_dish" s_check_dish anyC
  d_raw_order : Def K mg "raw_order" s_raw_order anyC
  d_check_ordered : Def K mg "check_ordered" s_check_ordered anyC
  d_raw_begins : Def K mg "raw_begins" s_raw_begins anyC
  d_raw_least : Def K mg "raw_least" s_raw_least anyC
  d_raw_latest : Def K mg "raw_latest" s_raw_latest anyC
  d_begins : Def K mg "begins" s_begins anyC
  d_least_minutes : Def K mg "least_minutes" s_least_minutes anyC
  d_latest_begins : Def K mg "latest_begins" s_latest_begins anyC
  d_slack : Def K mg "slack" s_slack anyC
  d_law_hand : Def K mg "_law_hand" s_law_hand anyC
  d_law_draw : Def K mg "_law_draw" s_law_draw anyC
  d_law_any : Def K mg "_law_any" s_law_any anyC
  d_law_is : Def K mg "_law_is" s_law_is anyC
  d_law_word : Def K mg "_law_word" s_law_word anyC
  d_law_dish : Def K mg "_law_dish" s_law_dish anyC
  d_law_begins : Def K mg "_law_begins" s_law_begins anyC
  d_law_end : Def K mg "_law_end" s_law_end anyC
  d_law_latest : Def K mg "_law_latest" s_law_latest anyC
  d_law_case_right : Def K mg "_law_case_right" s_law_case_right anyC
  d_law : Def K mg "law" s_law (PcL mg base T (("law" : Str) ++ ".<locals>." ++ "<lambda>"))
  n_ValueError : mg "ValueError" = none
  n_abs : mg "abs" = none
  n_all : mg "all" = none
  n_bool : mg "bool" = none
  n_enumerate : mg "enumerate" = none
  n_int : mg "int" = none
  n_isinstance : mg "isinstance" = none
  n_len : mg "len" = none
  n_list : mg "list" = none
  n_max : mg "max" = none
  n_min : mg "min" = none
  n_range : mg "range" = none
  n_sorted : mg "sorted" = none
  n_str : mg "str" = none
  n_tuple : mg "tuple" = none
  n_zip : mg "zip" = none
  c_MOST_STEPS : ∃ t, mg "MOST_STEPS" = some (.int 10 t)
  c_MOST_MINUTES : ∃ t, mg "MOST_MINUTES" = some (.int 600 t)
  x_NoDish : ∃ C, ExC K mg "NoDish" C
  x_NoOrder : ∃ C, ExC K mg "NoOrder" C
  k_KitchenError : ∃ C, mg "KitchenError" = some (.ref C)
  k_NoDish : ∃ C, mg "NoDish" = some (.ref C)
  k_NoOrder : ∃ C, mg "NoOrder" = some (.ref C)
  errs : ∀ x ∈ errL, ErrC K mg "KitchenError" (clsL.map fun n => (n, isa x n)) x
variable {P : Program} {w : World} {K : PySem.W.Frag} {mg : Str → Option Value} {base : Heap} {T : List (Addr × Str)}
/-! ### is_integer -/
abbrev N_is_integer : List Str := ["thing"]
theorem sc_is_integer : FnScope N_is_integer ["thing"] (defScope s_is_integer) := ⟨rfl, rfl, rfl, by decide +kernel, rfl, by decide +kernel, by decide +kernel⟩
theorem bi_is_integer : BindsBy "is_integer" s_is_integer ["thing"] := fun _ _ _ _ _ _ us hl => match us, hl with | [_], _ => rfl
def w_is_integer : WS := wRet (wAndV (wIsi isInt (wV 0)) (wNotV (wIsi isBool (wV 0))))
def isIntD : PyData → Bool
  | .int _ => true
  | _ => false
def C_is_integer : Ct := fun rs Q _ => ∃ x, rs = [.d x] ∧ Q (.d (.bool (isIntD x)))
theorem l_is_integer : ∀ rs Q X, C_is_integer rs Q X → rs.length = 1 := by
  rintro rs Q X ⟨x, rfl, _⟩
  rfl
theorem p_is_integer : ∀ rs Q X, C_is_integer rs Q X → w_is_integer ⟨fun _ => Q (.d .none), Q, fun _ => False, fun _ => False⟩ (startR N_is_integer rs) X := by
  rintro rs Q X ⟨x, rfl, h⟩
  (try simp only [wIzM, wWordV, wDc, wDn, wDGet, wDIn, wDNotIn, wDPut, wRetK, wFrzK, keyOf, R.dk.injEq, R.fk.injEq, wRev, neS, wSortLL, wSetIfO, ltDD, sortedDI, wIe, isDD, isnotDD, wPar2, sumDD, eqS, reprD, wV, wC, wNil, wCons, wTup, wLst, wOp, wUn, wCall, wT, wNot, wAnd, wOr, wB, wAndV, wOrV, wNotV, wIf, wIsi, wChain, wNo, wPart, wSl, wSet, wSetO, wTg, wPnil, wPcons, wPar, wNext, wSeq, wRet, wRetO, wRetN, wIfS, wBrk, wCnt, wDrop, wFrz, wApp, wExt, wSetIx, wAugIx, wAug, wRnil, wRcons, wFn, wRaise, wWord, wRetH, wSetIxH, wCount, wIndex, wIsE, wListRg1, wListRg2, wYes, wIs, wIz, wIl, wIt, wIr1, wIr2, wSlS, wPop, wAppPop, R.wk, R.st, R.ar, R.bl, R.no, R.sq, R.slot, setsR, startR, List.map_cons, List.map_nil, List.cons_append, List.nil_append, List.length_cons, List.length_nil, List.replicate, List.getElem?_cons_zero, List.getElem?_cons_succ, Option.some.injEq, exists_eq_left', exists_eq_left, R.d.injEq, R.own.injEq, R.fr.injEq, List.set_cons_zero, List.set_cons_succ, addD, subD, mulDD, fdivD, modD, ltD, leD, gtD, geD, eqD, neD, isND, isnotND, inDD, notInDD, ixD, negD, lenD, absD, intD, min2D, max2D, listD, tupleD, slD, Nat.reduceAdd, Nat.reduceSub, Nat.add_zero, Nat.zero_add, true_and, and_true, ite_true, ite_false, if_true, if_false, Bool.false_eq_true, reduceIte, Option.some_inj, Bool.true_eq_false, tgW, tgWs, wipe3, List.set_nil, w_is_integer])
  cases x <;> simp_all [isInt, isBool, isIntD]
theorem ok_is_integer (D : Txt K mg base T) : Cal false P w K mg base T 1 "is_integer" C_is_integer :=
  cal_of (wb := w_is_integer) D.d_is_integer sc_is_integer bi_is_integer l_is_integer (fun f cdv A outer s H E hp hr hgd => ess_one (es_ret (ev_and (ev_isi kit_int rfl D.n_isinstance bb_isinstance (ev_var (pv 0)) (pe_bltn rfl D.n_int bb_int rfl)) (ev_one (ev_not (ev_isi kit_bool rfl D.n_isinstance bb_isinstance (ev_var (pv 0)) (pe_bltn rfl D.n_bool bb_bool rfl))))))) p_is_integer
/-! ### is_within -/
abbrev N_is_within : List Str := ["thing", "low", "high"]
theorem sc_is_within : FnScope N_is_within ["thing", "low", "high"] (defScope s_is_within) := ⟨rfl, rfl, rfl, by decide +kernel, rfl, by decide +kernel, by decide +kernel⟩
theorem bi_is_within : BindsBy "is_within" s_is_within ["thing", "low", "high"] := fun _ _ _ _ _ _ us hl => match us, hl with | [_, _, _], _ => rfl
def w_is_within : WS := wRet (wAndV (wFn C_is_integer (wRcons (wV 0) (wRnil))) (wChain leD leD (wV 1) (wV 0) (wV 2)))
def within (x : PyData) (lo hi : Int) : Bool := match x with
  | .int i => decide (lo ≤ i) && decide (i ≤ hi)
  | _ => false
def C_is_within : Ct := fun rs Q _ => ∃ x lo hi, rs = [.d x, .d (.int lo), .d (.int hi)] ∧ Q (.d (.bool (within x lo hi)))
theorem l_is_within : ∀ rs Q X, C_is_within rs Q X → rs.length = 3 := by
  rintro rs Q X ⟨x, lo, hi, rfl, _⟩
  rfl
theorem p_is_within : ∀ rs Q X, C_is_within rs Q X → w_is_within ⟨fun _ => Q (.d .none), Q, fun _ => False, fun _ => False⟩ (startR N_is_within rs) X := by
  rintro rs Q X ⟨x, lo, hi, rfl, h⟩
  (try simp only [wIzM, wWordV, wDc, wDn, wDGet, wDIn, wDNotIn, wDPut, wRetK, wFrzK, keyOf, R.dk.injEq, R.fk.injEq, wRev, neS, wSortLL, wSetIfO, ltDD, sortedDI, wIe, isDD, isnotDD, wPar2, sumDD, eqS, reprD, wV, wC, wNil, wCons, wTup, wLst, wOp, wUn, wCall, wT, wNot, wAnd, wOr, wB, wAndV, wOrV, wNotV, wIf, wIsi, wChain, wNo, wPart, wSl, wSet, wSetO, wTg, wPnil, wPcons, wPar, wNext, wSeq, wRet, wRetO, wRetN, wIfS, wBrk, wCnt, wDrop, wFrz, wApp, wExt, wSetIx, wAugIx, wAug, wRnil, wRcons, wFn, wRaise, wWord, wRetH, wSetIxH, wCount, wIndex, wIsE, wListRg1, wListRg2, wYes, wIs, wIz, wIl, wIt, wIr1, wIr2, wSlS, wPop, wAppPop, R.wk, R.st, R.ar, R.bl, R.no, R.sq, R.slot, setsR, startR, List.map_cons, List.map_nil, List.cons_append, List.nil_append, List.length_cons, List.length_nil, List.replicate, List.getElem?_cons_zero, List.getElem?_cons_succ, Option.some.injEq, exists_eq_left', exists_eq_left, R.d.injEq, R.own.injEq, R.fr.injEq, List.set_cons_zero, List.set_cons_succ, addD, subD, mulDD, fdivD, modD, ltD, leD, gtD, geD, eqD, neD, isND, isnotND, inDD, notInDD, ixD, negD, lenD, absD, intD, min2D, max2D, listD, tupleD, slD, Nat.reduceAdd, Nat.reduceSub, Nat.add_zero, Nat.zero_add, true_and, and_true, ite_true, ite_false, if_true, if_false, Bool.false_eq_true, reduceIte, Option.some_inj, Bool.true_eq_false, tgW, tgWs, wipe3, List.set_nil, w_is_within, C_is_integer])
  refine ⟨x, rfl, ?_⟩
  cases x <;> simp_all [isIntD, within, R.bl, R.no]
  split <;> simp_all
theorem ok_is_within (D : Txt K mg base T) : Cal false P w K mg base T 2 "is_within" C_is_within :=
  cal_of (wb := w_is_within) D.d_is_within sc_is_within bi_is_within l_is_within (fun f cdv A outer s H E hp hr hgd => ess_one (es_ret (ev_and (ev_fnC (ok_is_integer D) hr (by decide) (fun h => by cases h) rfl pass_cx (er_cons (ev_var (pv 0)) (er_nil))) (ev_one (ev_chain op_leD op_leD (ev_var (pv 1)) (ev_var (pv 0)) (ev_var (pv 2))))))) p_is_within
/-! ### is_sized -/
abbrev N_is_sized : List Str := ["thing", "low", "high"]
theorem sc_is_sized : FnScope N_is_sized ["thing", "low", "high"] (defScope s_is_sized) := ⟨rfl, rfl, rfl, by decide +kernel, rfl, by decide +kernel, by decide +kernel⟩
theorem bi_is_sized : BindsBy "is_sized" s_is_sized ["thing", "low", "high"] := fun _ _ _ _ _ _ us hl => match us, hl with | [_, _, _], _ => rfl
def w_is_sized : WS := wRet (wAndV (wIsi isTup (wV 0)) (wChain leD leD (wV 1) (wCall lenD (wCons R.wk (wV 0) (wNil))) (wV 2)))
def sized (x : PyData) (lo hi : Int) : Bool := match x with
  | .tuple xs => decide (lo ≤ xs.length) && decide ((xs.length : Int) ≤ hi)
  | _ => false
def C_is_sized : Ct := fun rs Q _ => ∃ x lo hi, rs = [.d x, .d (.int lo), .d (.int hi)] ∧ Q (.d (.bool (sized x lo hi)))
theorem l_is_sized : ∀ rs Q X, C_is_sized rs Q X → rs.length = 3 := by
  rintro rs Q X ⟨x, lo, hi, rfl, _⟩
  rfl
theorem p_is_sized : ∀ rs Q X, C_is_sized rs Q X → w_is_sized ⟨fun _ => Q (.d .none), Q, fun _ => False, fun _ => False⟩ (startR N_is_sized rs) X := by
  rintro rs Q X ⟨x, lo, hi, rfl, h⟩
  (try simp only [wIzM, wWordV, wDc, wDn, wDGet, wDIn, wDNotIn, wDPut, wRetK, wFrzK, keyOf, R.dk.injEq, R.fk.injEq, wRev, neS, wSortLL, wSetIfO, ltDD, sortedDI, wIe, isDD, isnotDD, wPar2, sumDD, eqS, reprD, wV, wC, wNil, wCons, wTup, wLst, wOp, wUn, wCall, wT, wNot, wAnd, wOr, wB, wAndV, wOrV, wNotV, wIf, wIsi, wChain, wNo, wPart, wSl, wSet, wSetO, wTg, wPnil, wPcons, wPar, wNext, wSeq, wRet, wRetO, wRetN, wIfS, wBrk, wCnt, wDrop, wFrz, wApp, wExt, wSetIx, wAugIx, wAug, wRnil, wRcons, wFn, wRaise, wWord, wRetH, wSetIxH, wCount, wIndex, wIsE, wListRg1, wListRg2, wYes, wIs, wIz, wIl, wIt, wIr1, wIr2, wSlS, wPop, wAppPop, R.wk, R.st, R.ar, R.bl, R.no, R.sq, R.slot, setsR, startR, List.map_cons, List.map_nil, List.cons_append, List.nil_append, List.length_cons, List.length_nil, List.replicate, List.getElem?_cons_zero, List.getElem?_cons_succ, Option.some.injEq, exists_eq_left', exists_eq_left, R.d.injEq, R.own.injEq, R.fr.injEq, List.set_cons_zero, List.set_cons_succ, addD, subD, mulDD, fdivD, modD, ltD, leD, gtD, geD, eqD, neD, isND, isnotND, inDD, notInDD, ixD, negD, lenD, absD, intD, min2D, max2D, listD, tupleD, slD, Nat.reduceAdd, Nat.reduceSub, Nat.add_zero, Nat.zero_add, true_and, and_true, ite_true, ite_false, if_true, if_false, Bool.false_eq_true, reduceIte, Option.some_inj, Bool.true_eq_false, tgW, tgWs, wipe3, List.set_nil, w_is_sized])
  cases x <;> simp_all [isTup, sized, R.bl, R.no]
  split <;> simp_all
theorem ok_is_sized (D : Txt K mg base T) : Cal false P w K mg base T 1 "is_sized" C_is_sized :=
  cal_of (wb := w_is_sized) D.d_is_sized sc_is_sized bi_is_sized l_is_sized (fun f cdv A outer s H E hp hr hgd => ess_one (es_ret (ev_and (ev_isi kit_tup rfl D.n_isinstance bb_isinstance (ev_var (pv 0)) (pe_bltn rfl D.n_tuple bb_tuple rfl)) (ev_one (ev_chain op_leD op_leD (ev_var (pv 1)) (ev_callB cr_len rfl D.n_len bb_len (el_cons selW (ev_var (pv 0)) (el_nil))) (ev_var (pv 2))))))) p_is_sized
/-! ### are_rising -/
abbrev N_are_rising : List Str := ["things", "one", "other"]
theorem sc_are_rising : FnScope N_are_rising ["things"] (defScope s_are_rising) := ⟨rfl, rfl, rfl, by decide +kernel, rfl, by decide +kernel, by decide +kernel⟩
theorem bi_are_rising : BindsBy "are_rising" s_are_rising ["things"] := fun _ _ _ _ _ _ us hl => match us, hl with | [_], _ => rfl
def w_are_rising : WS := wRet (wCall allD (wCons R.wk (wLc (wIz (wV 0) (wSl (wV 0) (wPart (wC (.int 1))) wNo)) (.tup [.one 1, .one 2]) wYes (wOp ltDD (wV 1) (wV 2)) [1, 2]) (wNil)))
def ltB : PyData → PyData → Bool
  | .int a, .int b => decide (a < b)
  | .tuple [.int a, .int b], .tuple [.int c, .int d] => HT.lexLt [a, b] [c, d]
  | _, _ => false
def risesB : List PyData → Bool
  | x :: y :: r => ltB x y && risesB (y :: r)
  | _ => true
/-- may be compared: ints, or pairs of ints -/
def CmpOk (xs : List PyData) : Prop := (∃ ns : List Int, xs = ns.map .int) ∨ ∃ ps : List (Int × Int), xs = ps.map pairD
def ltZ (x : PyData) : Bool := match x with
  | .tuple [a, b] => ltB a b
  | _ => false
theorem zip_rises : ∀ xs : List PyData, ((zipD xs (xs.drop 1)).map ltZ).all id = risesB xs
  | [] => rfl
  | [x] => rfl
  | x :: y :: r => by
    show (ltB x y && ((zipD (y :: r) ((y :: r).drop 1)).map ltZ).all id) = (ltB x y && risesB (y :: r))
    rw [zip_rises (y :: r)]
def C_are_rising : Ct := fun rs Q _ => ∃ xs, rs = [.d (.tuple xs)] ∧ CmpOk xs ∧ Q (.d (.bool (risesB xs)))
theorem l_are_rising : ∀ rs Q X, C_are_rising rs Q X → rs.length = 1 := by
  rintro rs Q X ⟨x, rfl, _⟩
  rfl
theorem p_are_rising : ∀ rs Q X, C_are_rising rs Q X → w_are_rising ⟨fun _ => Q (.d .none), Q, fun _ => False, fun _ => False⟩ (startR N_are_rising rs) X := by
  rintro rs Q X ⟨xs, rfl, hc, h⟩
  (try simp only [wIzM, wWordV, wDc, wDn, wDGet, wDIn, wDNotIn, wDPut, wRetK, wFrzK, keyOf, R.dk.injEq, R.fk.injEq, wRev, neS, wSortLL, wSetIfO, ltDD, sortedDI, wIe, isDD, isnotDD, wPar2, sumDD, eqS, reprD, wV, wC, wNil, wCons, wTup, wLst, wOp, wUn, wCall, wT, wNot, wAnd, wOr, wB, wAndV, wOrV, wNotV, wIf, wIsi, wChain, wNo, wPart, wSl, wSet, wSetO, wTg, wPnil, wPcons, wPar, wNext, wSeq, wRet, wRetO, wRetN, wIfS, wBrk, wCnt, wDrop, wFrz, wApp, wExt, wSetIx, wAugIx, wAug, wRnil, wRcons, wFn, wRaise, wWord, wRetH, wSetIxH, wCount, wIndex, wIsE, wListRg1, wListRg2, wYes, wIs, wIz, wIl, wIt, wIr1, wIr2, wSlS, wPop, wAppPop, R.wk, R.st, R.ar, R.bl, R.no, R.sq, R.slot, setsR, startR, List.map_cons, List.map_nil, List.cons_append, List.nil_append, List.length_cons, List.length_nil, List.replicate, List.getElem?_cons_zero, List.getElem?_cons_succ, Option.some.injEq, exists_eq_left', exists_eq_left, R.d.injEq, R.own.injEq, R.fr.injEq, List.set_cons_zero, List.set_cons_succ, addD, subD, mulDD, fdivD, modD, ltD, leD, gtD, geD, eqD, neD, isND, isnotND, inDD, notInDD, ixD, negD, lenD, absD, intD, min2D, max2D, listD, tupleD, slD, Nat.reduceAdd, Nat.reduceSub, Nat.add_zero, Nat.zero_add, true_and, and_true, ite_true, ite_false, if_true, if_false, Bool.false_eq_true, reduceIte, Option.some_inj, Bool.true_eq_false, tgW, tgWs, wipe3, List.set_nil, w_are_rising, wLc])
  refine lc_map (fun x => .bool (ltZ x)) _ (fun x hx k hk => ?_) ?_
  · obtain ⟨a, b, ha, hb, rfl⟩ := zip_mem hx
    have hb2 : b ∈ xs := by
      have e := cut_from xs 1
      rw [show ((1 : Nat) : Int) = 1 from rfl] at e
      rw [e] at hb
      exact List.mem_of_mem_drop hb
    (try simp only [wIzM, wWordV, wDc, wDn, wDGet, wDIn, wDNotIn, wDPut, wRetK, wFrzK, keyOf, R.dk.injEq, R.fk.injEq, wRev, neS, wSortLL, wSetIfO, ltDD, sortedDI, wIe, isDD, isnotDD, wPar2, sumDD, eqS, reprD, wV, wC, wNil, wCons, wTup, wLst, wOp, wUn, wCall, wT, wNot, wAnd, wOr, wB, wAndV, wOrV, wNotV, wIf, wIsi, wChain, wNo, wPart, wSl, wSet, wSetO, wTg, wPnil, wPcons, wPar, wNext, wSeq, wRet, wRetO, wRetN, wIfS, wBrk, wCnt, wDrop, wFrz, wApp, wExt, wSetIx, wAugIx, wAug, wRnil, wRcons, wFn, wRaise, wWord, wRetH, wSetIxH, wCount, wIndex, wIsE, wListRg1, wListRg2, wYes, wIs, wIz, wIl, wIt, wIr1, wIr2, wSlS, wPop, wAppPop, R.wk, R.st, R.ar, R.bl, R.no, R.sq, R.slot, setsR, startR, List.map_cons, List.map_nil, List.cons_append, List.nil_append, List.length_cons, List.length_nil, List.replicate, List.getElem?_cons_zero, List.getElem?_cons_succ, Option.some.injEq, exists_eq_left', exists_eq_left, R.d.injEq, R.own.injEq, R.fr.injEq, List.set_cons_zero, List.set_cons_succ, addD, subD, mulDD, fdivD, modD, ltD, leD, gtD, geD, eqD, neD, isND, isnotND, inDD, notInDD, ixD, negD, lenD, absD, intD, min2D, max2D, listD, tupleD, slD, Nat.reduceAdd, Nat.reduceSub, Nat.add_zero, Nat.zero_add, true_and, and_true, ite_true, ite_false, if_true, if_false, Bool.false_eq_true, reduceIte, Option.some_inj, Bool.true_eq_false, tgW, tgWs, wipe3, List.set_nil])
    rcases hc with ⟨ns, rfl⟩ | ⟨ps, rfl⟩
    · obtain ⟨i, _, rfl⟩ := List.mem_map.mp ha
      obtain ⟨j, _, rfl⟩ := List.mem_map.mp hb2
      exact hk
    · obtain ⟨i, _, rfl⟩ := List.mem_map.mp ha
      obtain ⟨j, _, rfl⟩ := List.mem_map.mp hb2
      exact ⟨[i.1, i.2], [j.1, j.2], rfl, rfl, hk⟩
  · (try simp only [wIzM, wWordV, wDc, wDn, wDGet, wDIn, wDNotIn, wDPut, wRetK, wFrzK, keyOf, R.dk.injEq, R.fk.injEq, wRev, neS, wSortLL, wSetIfO, ltDD, sortedDI, wIe, isDD, isnotDD, wPar2, sumDD, eqS, reprD, wV, wC, wNil, wCons, wTup, wLst, wOp, wUn, wCall, wT, wNot, wAnd, wOr, wB, wAndV, wOrV, wNotV, wIf, wIsi, wChain, wNo, wPart, wSl, wSet, wSetO, wTg, wPnil, wPcons, wPar, wNext, wSeq, wRet, wRetO, wRetN, wIfS, wBrk, wCnt, wDrop, wFrz, wApp, wExt, wSetIx, wAugIx, wAug, wRnil, wRcons, wFn, wRaise, wWord, wRetH, wSetIxH, wCount, wIndex, wIsE, wListRg1, wListRg2, wYes, wIs, wIz, wIl, wIt, wIr1, wIr2, wSlS, wPop, wAppPop, R.wk, R.st, R.ar, R.bl, R.no, R.sq, R.slot, setsR, startR, List.map_cons, List.map_nil, List.cons_append, List.nil_append, List.length_cons, List.length_nil, List.replicate, List.getElem?_cons_zero, List.getElem?_cons_succ, Option.some.injEq, exists_eq_left', exists_eq_left, R.d.injEq, R.own.injEq, R.fr.injEq, List.set_cons_zero, List.set_cons_succ, addD, subD, mulDD, fdivD, modD, ltD, leD, gtD, geD, eqD, neD, isND, isnotND, inDD, notInDD, ixD, negD, lenD, absD, intD, min2D, max2D, listD, tupleD, slD, Nat.reduceAdd, Nat.reduceSub, Nat.add_zero, Nat.zero_add, true_and, and_true, ite_true, ite_false, if_true, if_false, Bool.false_eq_true, reduceIte, Option.some_inj, Bool.true_eq_false, tgW, tgWs, wipe3, List.set_nil, allD])
    have e := cut_from xs 1
    rw [show ((1 : Nat) : Int) = 1 from rfl] at e
    rw [e]
    obtain ⟨bs, e1, e2⟩ := bools_of ltZ (zipD xs (xs.drop 1))
    refine ⟨bs, e1, ?_⟩
    rw [e2, zip_rises]
    exact h
theorem ok_are_rising (D : Txt K mg base T) : Cal false P w K mg base T 1 "are_rising" C_are_rising :=
  cal_of (wb := w_are_rising) D.d_are_rising sc_are_rising bi_are_rising l_are_rising (fun f cdv A outer s H E hp hr hgd => ess_one (es_ret (ev_callB (cr_allD rfl) rfl D.n_all bb_all (el_cons selW (ev_lc (own := [("one", 1), ("other", 2)]) (g := .tup [.one 1, .one 2]) rfl sc_are_rising.nd (ei_zip rfl D.n_zip (ev_var (pv 0)) (ev_sl (ev_var (pv 0)) (eo_part (ev_int)) eo_no)) (blkOk_by (N := N_are_rising) (sc := defScope s_are_rising) (by decide +kernel)) (by decide) (fun _ _ _ _ _ => pg_tup rfl (pgs_cons (pg_name (i := 1) sc_are_rising.nd rfl (Or.inl rfl)) (pgs_cons (pg_name (i := 2) sc_are_rising.nd rfl (Or.inl rfl)) (pgs_nil)))) (fun _ _ _ _ _ => eb_yes) (fun _ _ _ _ _ => ev_cmp (op_ltDD (u64 hr)) (ev_var (pv 1)) (ev_var (pv 2)) (nomark _))) (el_nil))))) p_are_rising
/-! ### is_lot -/
abbrev N_is_lot : List Str := ["thing", "many", "one"]
theorem sc_is_lot : FnScope N_is_lot ["thing", "many"] (defScope s_is_lot) := ⟨rfl, rfl, rfl, by decide +kernel, rfl, by decide +kernel, by decide +kernel⟩
theorem bi_is_lot : BindsBy "is_lot" s_is_lot ["thing", "many"] := fun _ _ _ _ _ _ us hl => match us, hl with | [_, _], _ => rfl
def w_is_lot : WS := wSeq (wIfS (wOr (wNot (wT (wIsi isTup (wV 0)))) (wNot (wT (wCall allD (wCons R.wk (wLc (wIs (wV 0)) (.one 2) wYes (wFn C_is_within (wRcons (wV 2) (wRcons (wC (.int 0)) (wRcons (wOp subD (wV 1) (wC (.int 1))) (wRnil))))) [2]) (wNil)))))) (wRet (wC (.bool false))) (wNext)) (wRet (wFn C_are_rising (wRcons (wV 0) (wRnil))))
def okLot (m : Int) (x : PyData) : Bool := match x with
  | .tuple xs => xs.all (fun y => within y 0 (m - 1)) && risesB xs
  | _ => false
def C_is_lot : Ct := fun rs Q _ => ∃ x m, rs = [.d x, .d (.int m)] ∧ Q (.d (.bool (okLot m x)))
theorem l_is_lot : ∀ rs Q X, C_is_lot rs Q X → rs.length = 2 := by
  rintro rs Q X ⟨x, m, rfl, _⟩
  rfl
theorem within_of {y : PyData} {lo hi : Int} (h : within y lo hi = true) : ∃ i : Int, y = .int i ∧ lo ≤ i ∧ i ≤ hi := by
  cases y <;> simp_all [within]
theorem within_all {xs : List PyData} {lo hi : Int} (h : xs.all (fun y => within y lo hi) = true) : ∃ ns : List Int, xs = ns.map .int ∧ ∀ n ∈ ns, lo ≤ n ∧ n ≤ hi := by
  rw [List.all_eq_true] at h
  obtain ⟨ns, rfl⟩ := ints_back fun x hx => (within_of (h x hx)).imp fun i z => z.1
  refine ⟨ns, rfl, fun n hn => ?_⟩
  obtain ⟨i, e, z⟩ := within_of (h (.int n) (List.mem_map.mpr ⟨n, hn, rfl⟩))
  cases e
  exact z
theorem lot_of {m : Int} {x : PyData} (h : okLot m x = true) : ∃ ns : List Int, x = tupI ns ∧ ∀ n ∈ ns, 0 ≤ n ∧ n ≤ m - 1 := by
  unfold okLot at h
  split at h
  · rw [Bool.and_eq_true] at h
    obtain ⟨ns, rfl, z⟩ := within_all h.1
    exact ⟨ns, rfl, z⟩
  · cases h
theorem p_is_lot : ∀ rs Q X, C_is_lot rs Q X → w_is_lot ⟨fun _ => Q (.d .none), Q, fun _ => False, fun _ => False⟩ (startR N_is_lot rs) X := by
  rintro rs Q X ⟨x, m, rfl, h⟩
  (try simp only [wIzM, wWordV, wDc, wDn, wDGet, wDIn, wDNotIn, wDPut, wRetK, wFrzK, keyOf, R.dk.injEq, R.fk.injEq, wRev, neS, wSortLL, wSetIfO, ltDD, sortedDI, wIe, isDD, isnotDD, wPar2, sumDD, eqS, reprD, wV, wC, wNil, wCons, wTup, wLst, wOp, wUn, wCall, wT, wNot, wAnd, wOr, wB, wAndV, wOrV, wNotV, wIf, wIsi, wChain, wNo, wPart, wSl, wSet, wSetO, wTg, wPnil, wPcons, wPar, wNext, wSeq, wRet, wRetO, wRetN, wIfS, wBrk, wCnt, wDrop, wFrz, wApp, wExt, wSetIx, wAugIx, wAug, wRnil, wRcons, wFn, wRaise, wWord, wRetH, wSetIxH, wCount, wIndex, wIsE, wListRg1, wListRg2, wYes, wIs, wIz, wIl, wIt, wIr1, wIr2, wSlS, wPop, wAppPop, R.wk, R.st, R.ar, R.bl, R.no, R.sq, R.slot, setsR, startR, List.map_cons, List.map_nil, List.cons_append, List.nil_append, List.length_cons, List.length_nil, List.replicate, List.getElem?_cons_zero, List.getElem?_cons_succ, Option.some.injEq, exists_eq_left', exists_eq_left, R.d.injEq, R.own.injEq, R.fr.injEq, List.set_cons_zero, List.set_cons_succ, addD, subD, mulDD, fdivD, modD, ltD, leD, gtD, geD, eqD, neD, isND, isnotND, inDD, notInDD, ixD, negD, lenD, absD, intD, min2D, max2D, listD, tupleD, slD, Nat.reduceAdd, Nat.reduceSub, Nat.add_zero, Nat.zero_add, true_and, and_true, ite_true, ite_false, if_true, if_false, Bool.false_eq_true, reduceIte, Option.some_inj, Bool.true_eq_false, tgW, tgWs, wipe3, List.set_nil, w_is_lot])
  cases x with
  | tuple xs =>
    (try simp only [wIzM, wWordV, wDc, wDn, wDGet, wDIn, wDNotIn, wDPut, wRetK, wFrzK, keyOf, R.dk.injEq, R.fk.injEq, wRev, neS, wSortLL, wSetIfO, ltDD, sortedDI, wIe, isDD, isnotDD, wPar2, sumDD, eqS, reprD, wV, wC, wNil, wCons, wTup, wLst, wOp, wUn, wCall, wT, wNot, wAnd, wOr, wB, wAndV, wOrV, wNotV, wIf, wIsi, wChain, wNo, wPart, wSl, wSet, wSetO, wTg, wPnil, wPcons, wPar, wNext, wSeq, wRet, wRetO, wRetN, wIfS, wBrk, wCnt, wDrop, wFrz, wApp, wExt, wSetIx, wAugIx, wAug, wRnil, wRcons, wFn, wRaise, wWord, wRetH, wSetIxH, wCount, wIndex, wIsE, wListRg1, wListRg2, wYes, wIs, wIz, wIl, wIt, wIr1, wIr2, wSlS, wPop, wAppPop, R.wk, R.st, R.ar, R.bl, R.no, R.sq, R.slot, setsR, startR, List.map_cons, List.map_nil, List.cons_append, List.nil_append, List.length_cons, List.length_nil, List.replicate, List.getElem?_cons_zero, List.getElem?_cons_succ, Option.some.injEq, exists_eq_left', exists_eq_left, R.d.injEq, R.own.injEq, R.fr.injEq, List.set_cons_zero, List.set_cons_succ, addD, subD, mulDD, fdivD, modD, ltD, leD, gtD, geD, eqD, neD, isND, isnotND, inDD, notInDD, ixD, negD, lenD, absD, intD, min2D, max2D, listD, tupleD, slD, Nat.reduceAdd, Nat.reduceSub, Nat.add_zero, Nat.zero_add, true_and, and_true, ite_true, ite_false, if_true, if_false, Bool.false_eq_true, reduceIte, Option.some_inj, Bool.true_eq_false, tgW, tgWs, wipe3, List.set_nil, isTup, wLc, Bool.not_true])
    refine lc_map (fun y => .bool (within y 0 (m - 1))) xs (fun y hy k hk => ?_) ?_
    · (try simp only [wIzM, wWordV, wDc, wDn, wDGet, wDIn, wDNotIn, wDPut, wRetK, wFrzK, keyOf, R.dk.injEq, R.fk.injEq, wRev, neS, wSortLL, wSetIfO, ltDD, sortedDI, wIe, isDD, isnotDD, wPar2, sumDD, eqS, reprD, wV, wC, wNil, wCons, wTup, wLst, wOp, wUn, wCall, wT, wNot, wAnd, wOr, wB, wAndV, wOrV, wNotV, wIf, wIsi, wChain, wNo, wPart, wSl, wSet, wSetO, wTg, wPnil, wPcons, wPar, wNext, wSeq, wRet, wRetO, wRetN, wIfS, wBrk, wCnt, wDrop, wFrz, wApp, wExt, wSetIx, wAugIx, wAug, wRnil, wRcons, wFn, wRaise, wWord, wRetH, wSetIxH, wCount, wIndex, wIsE, wListRg1, wListRg2, wYes, wIs, wIz, wIl, wIt, wIr1, wIr2, wSlS, wPop, wAppPop, R.wk, R.st, R.ar, R.bl, R.no, R.sq, R.slot, setsR, startR, List.map_cons, List.map_nil, List.cons_append, List.nil_append, List.length_cons, List.length_nil, List.replicate, List.getElem?_cons_zero, List.getElem?_cons_succ, Option.some.injEq, exists_eq_left', exists_eq_left, R.d.injEq, R.own.injEq, R.fr.injEq, List.set_cons_zero, List.set_cons_succ, addD, subD, mulDD, fdivD, modD, ltD, leD, gtD, geD, eqD, neD, isND, isnotND, inDD, notInDD, ixD, negD, lenD, absD, intD, min2D, max2D, listD, tupleD, slD, Nat.reduceAdd, Nat.reduceSub, Nat.add_zero, Nat.zero_add, true_and, and_true, ite_true, ite_false, if_true, if_false, Bool.false_eq_true, reduceIte, Option.some_inj, Bool.true_eq_false, tgW, tgWs, wipe3, List.set_nil, C_is_within])
      exact ⟨y, 0, _, rfl, hk⟩
    · (try simp only [wIzM, wWordV, wDc, wDn, wDGet, wDIn, wDNotIn, wDPut, wRetK, wFrzK, keyOf, R.dk.injEq, R.fk.injEq, wRev, neS, wSortLL, wSetIfO, ltDD, sortedDI, wIe, isDD, isnotDD, wPar2, sumDD, eqS, reprD, wV, wC, wNil, wCons, wTup, wLst, wOp, wUn, wCall, wT, wNot, wAnd, wOr, wB, wAndV, wOrV, wNotV, wIf, wIsi, wChain, wNo, wPart, wSl, wSet, wSetO, wTg, wPnil, wPcons, wPar, wNext, wSeq, wRet, wRetO, wRetN, wIfS, wBrk, wCnt, wDrop, wFrz, wApp, wExt, wSetIx, wAugIx, wAug, wRnil, wRcons, wFn, wRaise, wWord, wRetH, wSetIxH, wCount, wIndex, wIsE, wListRg1, wListRg2, wYes, wIs, wIz, wIl, wIt, wIr1, wIr2, wSlS, wPop, wAppPop, R.wk, R.st, R.ar, R.bl, R.no, R.sq, R.slot, setsR, startR, List.map_cons, List.map_nil, List.cons_append, List.nil_append, List.length_cons, List.length_nil, List.replicate, List.getElem?_cons_zero, List.getElem?_cons_succ, Option.some.injEq, exists_eq_left', exists_eq_left, R.d.injEq, R.own.injEq, R.fr.injEq, List.set_cons_zero, List.set_cons_succ, addD, subD, mulDD, fdivD, modD, ltD, leD, gtD, geD, eqD, neD, isND, isnotND, inDD, notInDD, ixD, negD, lenD, absD, intD, min2D, max2D, listD, tupleD, slD, Nat.reduceAdd, Nat.reduceSub, Nat.add_zero, Nat.zero_add, true_and, and_true, ite_true, ite_false, if_true, if_false, Bool.false_eq_true, reduceIte, Option.some_inj, Bool.true_eq_false, tgW, tgWs, wipe3, List.set_nil, allD])
      obtain ⟨bs, e1, e2⟩ := bools_of (fun y => within y 0 (m - 1)) xs
      refine ⟨bs, e1, ?_⟩
      have e3 : bs.all id = xs.all (fun y => within y 0 (m - 1)) := by
        rw [e2, List.all_map]
        rfl
      rw [e3]
      cases ha : xs.all (fun y => within y 0 (m - 1)) with
      | false =>
        (try simp only [wIzM, wWordV, wDc, wDn, wDGet, wDIn, wDNotIn, wDPut, wRetK, wFrzK, keyOf, R.dk.injEq, R.fk.injEq, wRev, neS, wSortLL, wSetIfO, ltDD, sortedDI, wIe, isDD, isnotDD, wPar2, sumDD, eqS, reprD, wV, wC, wNil, wCons, wTup, wLst, wOp, wUn, wCall, wT, wNot, wAnd, wOr, wB, wAndV, wOrV, wNotV, wIf, wIsi, wChain, wNo, wPart, wSl, wSet, wSetO, wTg, wPnil, wPcons, wPar, wNext, wSeq, wRet, wRetO, wRetN, wIfS, wBrk, wCnt, wDrop, wFrz, wApp, wExt, wSetIx, wAugIx, wAug, wRnil, wRcons, wFn, wRaise, wWord, wRetH, wSetIxH, wCount, wIndex, wIsE, wListRg1, wListRg2, wYes, wIs, wIz, wIl, wIt, wIr1, wIr2, wSlS, wPop, wAppPop, R.wk, R.st, R.ar, R.bl, R.no, R.sq, R.slot, setsR, startR, List.map_cons, List.map_nil, List.cons_append, List.nil_append, List.length_cons, List.length_nil, List.replicate, List.getElem?_cons_zero, List.getElem?_cons_succ, Option.some.injEq, exists_eq_left', exists_eq_left, R.d.injEq, R.own.injEq, R.fr.injEq, List.set_cons_zero, List.set_cons_succ, addD, subD, mulDD, fdivD, modD, ltD, leD, gtD, geD, eqD, neD, isND, isnotND, inDD, notInDD, ixD, negD, lenD, absD, intD, min2D, max2D, listD, tupleD, slD, Nat.reduceAdd, Nat.reduceSub, Nat.add_zero, Nat.zero_add, true_and, and_true, ite_true, ite_false, if_true, if_false, Bool.false_eq_true, reduceIte, Option.some_inj, Bool.true_eq_false, tgW, tgWs, wipe3, List.set_nil, Bool.not_false])
        simpa [okLot, ha] using h
      | true =>
        (try simp only [wIzM, wWordV, wDc, wDn, wDGet, wDIn, wDNotIn, wDPut, wRetK, wFrzK, keyOf, R.dk.injEq, R.fk.injEq, wRev, neS, wSortLL, wSetIfO, ltDD, sortedDI, wIe, isDD, isnotDD, wPar2, sumDD, eqS, reprD, wV, wC, wNil, wCons, wTup, wLst, wOp, wUn, wCall, wT, wNot, wAnd, wOr, wB, wAndV, wOrV, wNotV, wIf, wIsi, wChain, wNo, wPart, wSl, wSet, wSetO, wTg, wPnil, wPcons, wPar, wNext, wSeq, wRet, wRetO, wRetN, wIfS, wBrk, wCnt, wDrop, wFrz, wApp, wExt, wSetIx, wAugIx, wAug, wRnil, wRcons, wFn, wRaise, wWord, wRetH, wSetIxH, wCount, wIndex, wIsE, wListRg1, wListRg2, wYes, wIs, wIz, wIl, wIt, wIr1, wIr2, wSlS, wPop, wAppPop, R.wk, R.st, R.ar, R.bl, R.no, R.sq, R.slot, setsR, startR, List.map_cons, List.map_nil, List.cons_append, List.nil_append, List.length_cons, List.length_nil, List.replicate, List.getElem?_cons_zero, List.getElem?_cons_succ, Option.some.injEq, exists_eq_left', exists_eq_left, R.d.injEq, R.own.injEq, R.fr.injEq, List.set_cons_zero, List.set_cons_succ, addD, subD, mulDD, fdivD, modD, ltD, leD, gtD, geD, eqD, neD, isND, isnotND, inDD, notInDD, ixD, negD, lenD, absD, intD, min2D, max2D, listD, tupleD, slD, Nat.reduceAdd, Nat.reduceSub, Nat.add_zero, Nat.zero_add, true_and, and_true, ite_true, ite_false, if_true, if_false, Bool.false_eq_true, reduceIte, Option.some_inj, Bool.true_eq_false, tgW, tgWs, wipe3, List.set_nil, Bool.not_true, C_are_rising])
        obtain ⟨ns, rfl, _⟩ := within_all ha
        refine ⟨_, rfl, .inl ⟨ns, rfl⟩, ?_⟩
        simpa [okLot, ha] using h
  | _ => simpa [isTup, okLot, R.no] using h
theorem ok_is_lot (D : Txt K mg base T) : Cal false P w K mg base T 3 "is_lot" C_is_lot :=
  cal_of (wb := w_is_lot) D.d_is_lot sc_is_lot bi_is_lot l_is_lot (fun f cdv A outer s H E hp hr hgd => ess_cons (es_if (PW.pt (ew_or (et_not (et_val (ev_isi kit_tup rfl D.n_isinstance bb_isinstance (ev_var (pv 0)) (pe_bltn rfl D.n_tuple bb_tuple rfl)))) (ew_or1 (et_not (et_val (ev_callB (cr_allD rfl) rfl D.n_all bb_all (el_cons selW (ev_lc (own := [("one", 2)]) (g := .one 2) rfl sc_is_lot.nd (ei_seq (ev_var (pv 0))) (blkOk_by (N := N_is_lot) (sc := defScope s_is_lot) (by decide +kernel)) (by decide) (fun _ _ _ _ _ => pg_name (i := 2) sc_is_lot.nd rfl (Or.inl rfl)) (fun _ _ _ _ _ => eb_yes) (fun _ _ _ _ _ => ev_fnC (ok_is_within D) hr (by decide) (fun h => by cases h) rfl passL (er_cons (ev_var (pv 2)) (er_cons (ev_int) (er_cons (ev_op op_subD (ev_var (pv 1)) (ev_int)) (er_nil)))))) (el_nil)))))))) (ess_one (es_ret (ev_bl))) (ess_nil)) (ess_one (es_ret (ev_fnC (ok_are_rising D) hr (by decide) (fun h => by cases h) rfl pass_cx (er_cons (ev_var (pv 0)) (er_nil)))))) p_is_lot
/-! ### is_step -/
abbrev N_is_step : List Str := ["thing", "number", "many"]
theorem sc_is_step : FnScope N_is_step ["thing", "number", "many"] (defScope s_is_step) := ⟨rfl, rfl, rfl, by decide +kernel, rfl, by decide +kernel, by decide +kernel⟩
theorem bi_is_step : BindsBy "is_step" s_is_step ["thing", "number", "many"] := fun _ _ _ _ _ _ us hl => match us, hl with | [_, _, _], _ => rfl
def w_is_step : WS := wSeq (wIfS (wOr (wNot (wT (wFn C_is_sized (wRcons (wV 0) (wRcons (wC (.int 2)) (wRcons (wC (.int 2)) (wRnil))))))) (wOr (wNot (wT (wFn C_is_within (wRcons (wOp ixD (wV 0) (wC (.int 0))) (wRcons (wC (.int 1)) (wRcons (wC (.int 600)) (wRnil))))))) (wNot (wT (wFn C_is_lot (wRcons (wOp ixD (wV 0) (wC (.int 1))) (wRcons (wV 2) (wRnil)))))))) (wRet (wC (.bool false))) (wNext)) (wRet (wOp notInDD (wV 1) (wOp ixD (wV 0) (wC (.int 1)))))
/-- one step: minutes, and what it waits for -/
abbrev St := Int × List Nat
abbrev stepD (p : St) : PyData := .tuple [.int p.1, tupI (natI p.2)]
abbrev dsD (ss : List St) : PyData := .tuple (ss.map stepD)
def okStep (j m : Int) (x : PyData) : Bool := match x with
  | .tuple [a, .tuple ys] => within a 1 600 && okLot m (.tuple ys) && !(ys.any fun z => z.eqv (.int j))
  | _ => false
structure GoodS (n j : Nat) (p : St) : Prop where
  m1 : 1 ≤ p.1
  m600 : p.1 ≤ 600
  lt : ∀ w ∈ p.2, w < n
  rise : risesB ((natI p.2).map .int) = true
  own : j ∉ p.2
theorem step_of {j n : Nat} {x : PyData} (h : okStep j n x = true) : ∃ p, x = stepD p ∧ GoodS n j p := by
  unfold okStep at h
  split at h
  · rename_i a ys
    simp only [Bool.and_eq_true, Bool.not_eq_true'] at h
    obtain ⟨⟨h1, h2⟩, h3⟩ := h
    obtain ⟨i, rfl, i1, i2⟩ := within_of h1
    obtain ⟨ns, e, hn⟩ := lot_of h2
    obtain ⟨ws, rfl⟩ := nats_back fun n hn' => (hn n hn').1
    rw [e] at h2
    injection e with e
    subst e
    rw [any_nats] at h3
    refine ⟨(i, ws), rfl, i1, i2, fun w hw => ?_, ?_, of_decide_eq_false h3⟩
    · have := hn w (nat_mem.mpr hw)
      omega
    · unfold okLot at h2
      rw [Bool.and_eq_true] at h2
      exact h2.2
  · cases h
theorem step_ok {j n : Nat} {p : St} (g : GoodS n j p) : okStep j n (stepD p) = true := by
  show (within (.int p.1) 1 600 && (((natI p.2).map PyData.int).all (fun y => within y 0 ((n : Int) - 1)) && risesB ((natI p.2).map PyData.int)) && !(((natI p.2).map PyData.int).any fun z => z.eqv (.int (j : Int)))) = true
  rw [any_nats, decide_eq_false g.own, g.rise]
  simp only [Bool.and_eq_true, Bool.not_false, and_true, List.all_eq_true]
  refine ⟨?_, fun x hx => ?_⟩
  · simp [within, g.m1, g.m600]
  · obtain ⟨i, hi, rfl⟩ := List.mem_map.mp hx
    obtain ⟨w, hw, rfl⟩ := List.mem_map.mp hi
    have := g.lt w hw
    simp only [within, Bool.and_eq_true, decide_eq_true_eq]
    omega
def C_is_step : Ct := fun rs Q _ => ∃ (x : PyData) (j m : Int), rs = [.d x, .d (.int j), .d (.int m)] ∧ Q (.d (.bool (okStep j m x)))
theorem l_is_step : ∀ rs Q X, C_is_step rs Q X → rs.length = 3 := by
  rintro rs Q X ⟨_, _, _, rfl, _⟩
  rfl
theorem p_is_step : ∀ rs Q X, C_is_step rs Q X → w_is_step ⟨fun _ => Q (.d .none), Q, fun _ => False, fun _ => False⟩ (startR N_is_step rs) X := by
  rintro rs Q X ⟨x, j, m, rfl, h⟩
  (try simp only [wIzM, wWordV, wDc, wDn, wDGet, wDIn, wDNotIn, wDPut, wRetK, wFrzK, keyOf, R.dk.injEq, R.fk.injEq, wRev, neS, wSortLL, wSetIfO, ltDD, sortedDI, wIe, isDD, isnotDD, wPar2, sumDD, eqS, reprD, wV, wC, wNil, wCons, wTup, wLst, wOp, wUn, wCall, wT, wNot, wAnd, wOr, wB, wAndV, wOrV, wNotV, wIf, wIsi, wChain, wNo, wPart, wSl, wSet, wSetO, wTg, wPnil, wPcons, wPar, wNext, wSeq, wRet, wRetO, wRetN, wIfS, wBrk, wCnt, wDrop, wFrz, wApp, wExt, wSetIx, wAugIx, wAug, wRnil, wRcons, wFn, wRaise, wWord, wRetH, wSetIxH, wCount, wIndex, wIsE, wListRg1, wListRg2, wYes, wIs, wIz, wIl, wIt, wIr1, wIr2, wSlS, wPop, wAppPop, R.wk, R.st, R.ar, R.bl, R.no, R.sq, R.slot, setsR, startR, List.map_cons, List.map_nil, List.cons_append, List.nil_append, List.length_cons, List.length_nil, List.replicate, List.getElem?_cons_zero, List.getElem?_cons_succ, Option.some.injEq, exists_eq_left', exists_eq_left, R.d.injEq, R.own.injEq, R.fr.injEq, List.set_cons_zero, List.set_cons_succ, addD, subD, mulDD, fdivD, modD, ltD, leD, gtD, geD, eqD, neD, isND, isnotND, inDD, notInDD, ixD, negD, lenD, absD, intD, min2D, max2D, listD, tupleD, slD, Nat.reduceAdd, Nat.reduceSub, Nat.add_zero, Nat.zero_add, true_and, and_true, ite_true, ite_false, if_true, if_false, Bool.false_eq_true, reduceIte, Option.some_inj, Bool.true_eq_false, tgW, tgWs, wipe3, List.set_nil, w_is_step, C_is_sized])
  refine ⟨x, 2, 2, rfl, ?_⟩
  (try simp only [wIzM, wWordV, wDc, wDn, wDGet, wDIn, wDNotIn, wDPut, wRetK, wFrzK, keyOf, R.dk.injEq, R.fk.injEq, wRev, neS, wSortLL, wSetIfO, ltDD, sortedDI, wIe, isDD, isnotDD, wPar2, sumDD, eqS, reprD, wV, wC, wNil, wCons, wTup, wLst, wOp, wUn, wCall, wT, wNot, wAnd, wOr, wB, wAndV, wOrV, wNotV, wIf, wIsi, wChain, wNo, wPart, wSl, wSet, wSetO, wTg, wPnil, wPcons, wPar, wNext, wSeq, wRet, wRetO, wRetN, wIfS, wBrk, wCnt, wDrop, wFrz, wApp, wExt, wSetIx, wAugIx, wAug, wRnil, wRcons, wFn, wRaise, wWord, wRetH, wSetIxH, wCount, wIndex, wIsE, wListRg1, wListRg2, wYes, wIs, wIz, wIl, wIt, wIr1, wIr2, wSlS, wPop, wAppPop, R.wk, R.st, R.ar, R.bl, R.no, R.sq, R.slot, setsR, startR, List.map_cons, List.map_nil, List.cons_append, List.nil_append, List.length_cons, List.length_nil, List.replicate, List.getElem?_cons_zero, List.getElem?_cons_succ, Option.some.injEq, exists_eq_left', exists_eq_left, R.d.injEq, R.own.injEq, R.fr.injEq, List.set_cons_zero, List.set_cons_succ, addD, subD, mulDD, fdivD, modD, ltD, leD, gtD, geD, eqD, neD, isND, isnotND, inDD, notInDD, ixD, negD, lenD, absD, intD, min2D, max2D, listD, tupleD, slD, Nat.reduceAdd, Nat.reduceSub, Nat.add_zero, Nat.zero_add, true_and, and_true, ite_true, ite_false, if_true, if_false, Bool.false_eq_true, reduceIte, Option.some_inj, Bool.true_eq_false, tgW, tgWs, wipe3, List.set_nil])
  cases hs : sized x 2 2 with
  | false =>
    (try simp only [wIzM, wWordV, wDc, wDn, wDGet, wDIn, wDNotIn, wDPut, wRetK, wFrzK, keyOf, R.dk.injEq, R.fk.injEq, wRev, neS, wSortLL, wSetIfO, ltDD, sortedDI, wIe, isDD, isnotDD, wPar2, sumDD, eqS, reprD, wV, wC, wNil, wCons, wTup, wLst, wOp, wUn, wCall, wT, wNot, wAnd, wOr, wB, wAndV, wOrV, wNotV, wIf, wIsi, wChain, wNo, wPart, wSl, wSet, wSetO, wTg, wPnil, wPcons, wPar, wNext, wSeq, wRet, wRetO, wRetN, wIfS, wBrk, wCnt, wDrop, wFrz, wApp, wExt, wSetIx, wAugIx, wAug, wRnil, wRcons, wFn, wRaise, wWord, wRetH, wSetIxH, wCount, wIndex, wIsE, wListRg1, wListRg2, wYes, wIs, wIz, wIl, wIt, wIr1, wIr2, wSlS, wPop, wAppPop, R.wk, R.st, R.ar, R.bl, R.no, R.sq, R.slot, setsR, startR, List.map_cons, List.map_nil, List.cons_append, List.nil_append, List.length_cons, List.length_nil, List.replicate, List.getElem?_cons_zero, List.getElem?_cons_succ, Option.some.injEq, exists_eq_left', exists_eq_left, R.d.injEq, R.own.injEq, R.fr.injEq, List.set_cons_zero, List.set_cons_succ, addD, subD, mulDD, fdivD, modD, ltD, leD, gtD, geD, eqD, neD, isND, isnotND, inDD, notInDD, ixD, negD, lenD, absD, intD, min2D, max2D, listD, tupleD, slD, Nat.reduceAdd, Nat.reduceSub, Nat.add_zero, Nat.zero_add, true_and, and_true, ite_true, ite_false, if_true, if_false, Bool.false_eq_true, reduceIte, Option.some_inj, Bool.true_eq_false, tgW, tgWs, wipe3, List.set_nil, Bool.not_false])
    have e : okStep j m x = false := by
      unfold okStep
      split
      · simp [sized] at hs
      · rfl
    rw [e] at h
    exact h
  | true =>
    (try simp only [wIzM, wWordV, wDc, wDn, wDGet, wDIn, wDNotIn, wDPut, wRetK, wFrzK, keyOf, R.dk.injEq, R.fk.injEq, wRev, neS, wSortLL, wSetIfO, ltDD, sortedDI, wIe, isDD, isnotDD, wPar2, sumDD, eqS, reprD, wV, wC, wNil, wCons, wTup, wLst, wOp, wUn, wCall, wT, wNot, wAnd, wOr, wB, wAndV, wOrV, wNotV, wIf, wIsi, wChain, wNo, wPart, wSl, wSet, wSetO, wTg, wPnil, wPcons, wPar, wNext, wSeq, wRet, wRetO, wRetN, wIfS, wBrk, wCnt, wDrop, wFrz, wApp, wExt, wSetIx, wAugIx, wAug, wRnil, wRcons, wFn, wRaise, wWord, wRetH, wSetIxH, wCount, wIndex, wIsE, wListRg1, wListRg2, wYes, wIs, wIz, wIl, wIt, wIr1, wIr2, wSlS, wPop, wAppPop, R.wk, R.st, R.ar, R.bl, R.no, R.sq, R.slot, setsR, startR, List.map_cons, List.map_nil, List.cons_append, List.nil_append, List.length_cons, List.length_nil, List.replicate, List.getElem?_cons_zero, List.getElem?_cons_succ, Option.some.injEq, exists_eq_left', exists_eq_left, R.d.injEq, R.own.injEq, R.fr.injEq, List.set_cons_zero, List.set_cons_succ, addD, subD, mulDD, fdivD, modD, ltD, leD, gtD, geD, eqD, neD, isND, isnotND, inDD, notInDD, ixD, negD, lenD, absD, intD, min2D, max2D, listD, tupleD, slD, Nat.reduceAdd, Nat.reduceSub, Nat.add_zero, Nat.zero_add, true_and, and_true, ite_true, ite_false, if_true, if_false, Bool.false_eq_true, reduceIte, Option.some_inj, Bool.true_eq_false, tgW, tgWs, wipe3, List.set_nil, Bool.not_true])
    match x, hs, h with
    | .tuple [a, b], _, h =>
      (try simp only [wIzM, wWordV, wDc, wDn, wDGet, wDIn, wDNotIn, wDPut, wRetK, wFrzK, keyOf, R.dk.injEq, R.fk.injEq, wRev, neS, wSortLL, wSetIfO, ltDD, sortedDI, wIe, isDD, isnotDD, wPar2, sumDD, eqS, reprD, wV, wC, wNil, wCons, wTup, wLst, wOp, wUn, wCall, wT, wNot, wAnd, wOr, wB, wAndV, wOrV, wNotV, wIf, wIsi, wChain, wNo, wPart, wSl, wSet, wSetO, wTg, wPnil, wPcons, wPar, wNext, wSeq, wRet, wRetO, wRetN, wIfS, wBrk, wCnt, wDrop, wFrz, wApp, wExt, wSetIx, wAugIx, wAug, wRnil, wRcons, wFn, wRaise, wWord, wRetH, wSetIxH, wCount, wIndex, wIsE, wListRg1, wListRg2, wYes, wIs, wIz, wIl, wIt, wIr1, wIr2, wSlS, wPop, wAppPop, R.wk, R.st, R.ar, R.bl, R.no, R.sq, R.slot, setsR, startR, List.map_cons, List.map_nil, List.cons_append, List.nil_append, List.length_cons, List.length_nil, List.replicate, List.getElem?_cons_zero, List.getElem?_cons_succ, Option.some.injEq, exists_eq_left', exists_eq_left, R.d.injEq, R.own.injEq, R.fr.injEq, List.set_cons_zero, List.set_cons_succ, addD, subD, mulDD, fdivD, modD, ltD, leD, gtD, geD, eqD, neD, isND, isnotND, inDD, notInDD, ixD, negD, lenD, absD, intD, min2D, max2D, listD, tupleD, slD, Nat.reduceAdd, Nat.reduceSub, Nat.add_zero, Nat.zero_add, true_and, and_true, ite_true, ite_false, if_true, if_false, Bool.false_eq_true, reduceIte, Option.some_inj, Bool.true_eq_false, tgW, tgWs, wipe3, List.set_nil, at0, at1, C_is_within])
      refine ⟨a, 1, 600, rfl, ?_⟩
      (try simp only [wIzM, wWordV, wDc, wDn, wDGet, wDIn, wDNotIn, wDPut, wRetK, wFrzK, keyOf, R.dk.injEq, R.fk.injEq, wRev, neS, wSortLL, wSetIfO, ltDD, sortedDI, wIe, isDD, isnotDD, wPar2, sumDD, eqS, reprD, wV, wC, wNil, wCons, wTup, wLst, wOp, wUn, wCall, wT, wNot, wAnd, wOr, wB, wAndV, wOrV, wNotV, wIf, wIsi, wChain, wNo, wPart, wSl, wSet, wSetO, wTg, wPnil, wPcons, wPar, wNext, wSeq, wRet, wRetO, wRetN, wIfS, wBrk, wCnt, wDrop, wFrz, wApp, wExt, wSetIx, wAugIx, wAug, wRnil, wRcons, wFn, wRaise, wWord, wRetH, wSetIxH, wCount, wIndex, wIsE, wListRg1, wListRg2, wYes, wIs, wIz, wIl, wIt, wIr1, wIr2, wSlS, wPop, wAppPop, R.wk, R.st, R.ar, R.bl, R.no, R.sq, R.slot, setsR, startR, List.map_cons, List.map_nil, List.cons_append, List.nil_append, List.length_cons, List.length_nil, List.replicate, List.getElem?_cons_zero, List.getElem?_cons_succ, Option.some.injEq, exists_eq_left', exists_eq_left, R.d.injEq, R.own.injEq, R.fr.injEq, List.set_cons_zero, List.set_cons_succ, addD, subD, mulDD, fdivD, modD, ltD, leD, gtD, geD, eqD, neD, isND, isnotND, inDD, notInDD, ixD, negD, lenD, absD, intD, min2D, max2D, listD, tupleD, slD, Nat.reduceAdd, Nat.reduceSub, Nat.add_zero, Nat.zero_add, true_and, and_true, ite_true, ite_false, if_true, if_false, Bool.false_eq_true, reduceIte, Option.some_inj, Bool.true_eq_false, tgW, tgWs, wipe3, List.set_nil])
      cases hw : within a 1 600 with
      | false =>
        (try simp only [wIzM, wWordV, wDc, wDn, wDGet, wDIn, wDNotIn, wDPut, wRetK, wFrzK, keyOf, R.dk.injEq, R.fk.injEq, wRev, neS, wSortLL, wSetIfO, ltDD, sortedDI, wIe, isDD, isnotDD, wPar2, sumDD, eqS, reprD, wV, wC, wNil, wCons, wTup, wLst, wOp, wUn, wCall, wT, wNot, wAnd, wOr, wB, wAndV, wOrV, wNotV, wIf, wIsi, wChain, wNo, wPart, wSl, wSet, wSetO, wTg, wPnil, wPcons, wPar, wNext, wSeq, wRet, wRetO, wRetN, wIfS, wBrk, wCnt, wDrop, wFrz, wApp, wExt, wSetIx, wAugIx, wAug, wRnil, wRcons, wFn, wRaise, wWord, wRetH, wSetIxH, wCount, wIndex, wIsE, wListRg1, wListRg2, wYes, wIs, wIz, wIl, wIt, wIr1, wIr2, wSlS, wPop, wAppPop, R.wk, R.st, R.ar, R.bl, R.no, R.sq, R.slot, setsR, startR, List.map_cons, List.map_nil, List.cons_append, List.nil_append, List.length_cons, List.length_nil, List.replicate, List.getElem?_cons_zero, List.getElem?_cons_succ, Option.some.injEq, exists_eq_left', exists_eq_left, R.d.injEq, R.own.injEq, R.fr.injEq, List.set_cons_zero, List.set_cons_succ, addD, subD, mulDD, fdivD, modD, ltD, leD, gtD, geD, eqD, neD, isND, isnotND, inDD, notInDD, ixD, negD, lenD, absD, intD, min2D, max2D, listD, tupleD, slD, Nat.reduceAdd, Nat.reduceSub, Nat.add_zero, Nat.zero_add, true_and, and_true, ite_true, ite_false, if_true, if_false, Bool.false_eq_true, reduceIte, Option.some_inj, Bool.true_eq_false, tgW, tgWs, wipe3, List.set_nil, Bool.not_false])
        have e : okStep j m (.tuple [a, b]) = false := by
          unfold okStep
          split
          · rename_i e
            injection e with e
            injection e with e1 _
            subst e1
            rw [hw]
            rfl
          · rfl
        rw [e] at h
        exact h
      | true =>
        (try simp only [wIzM, wWordV, wDc, wDn, wDGet, wDIn, wDNotIn, wDPut, wRetK, wFrzK, keyOf, R.dk.injEq, R.fk.injEq, wRev, neS, wSortLL, wSetIfO, ltDD, sortedDI, wIe, isDD, isnotDD, wPar2, sumDD, eqS, reprD, wV, wC, wNil, wCons, wTup, wLst, wOp, wUn, wCall, wT, wNot, wAnd, wOr, wB, wAndV, wOrV, wNotV, wIf, wIsi, wChain, wNo, wPart, wSl, wSet, wSetO, wTg, wPnil, wPcons, wPar, wNext, wSeq, wRet, wRetO, wRetN, wIfS, wBrk, wCnt, wDrop, wFrz, wApp, wExt, wSetIx, wAugIx, wAug, wRnil, wRcons, wFn, wRaise, wWord, wRetH, wSetIxH, wCount, wIndex, wIsE, wListRg1, wListRg2, wYes, wIs, wIz, wIl, wIt, wIr1, wIr2, wSlS, wPop, wAppPop, R.wk, R.st, R.ar, R.bl, R.no, R.sq, R.slot, setsR, startR, List.map_cons, List.map_nil, List.cons_append, List.nil_append, List.length_cons, List.length_nil, List.replicate, List.getElem?_cons_zero, List.getElem?_cons_succ, Option.some.injEq, exists_eq_left', exists_eq_left, R.d.injEq, R.own.injEq, R.fr.injEq, List.set_cons_zero, List.set_cons_succ, addD, subD, mulDD, fdivD, modD, ltD, leD, gtD, geD, eqD, neD, isND, isnotND, inDD, notInDD, ixD, negD, lenD, absD, intD, min2D, max2D, listD, tupleD, slD, Nat.reduceAdd, Nat.reduceSub, Nat.add_zero, Nat.zero_add, true_and, and_true, ite_true, ite_false, if_true, if_false, Bool.false_eq_true, reduceIte, Option.some_inj, Bool.true_eq_false, tgW, tgWs, wipe3, List.set_nil, Bool.not_true, C_is_lot])
        refine ⟨b, m, rfl, ?_⟩
        (try simp only [wIzM, wWordV, wDc, wDn, wDGet, wDIn, wDNotIn, wDPut, wRetK, wFrzK, keyOf, R.dk.injEq, R.fk.injEq, wRev, neS, wSortLL, wSetIfO, ltDD, sortedDI, wIe, isDD, isnotDD, wPar2, sumDD, eqS, reprD, wV, wC, wNil, wCons, wTup, wLst, wOp, wUn, wCall, wT, wNot, wAnd, wOr, wB, wAndV, wOrV, wNotV, wIf, wIsi, wChain, wNo, wPart, wSl, wSet, wSetO, wTg, wPnil, wPcons, wPar, wNext, wSeq, wRet, wRetO, wRetN, wIfS, wBrk, wCnt, wDrop, wFrz, wApp, wExt, wSetIx, wAugIx, wAug, wRnil, wRcons, wFn, wRaise, wWord, wRetH, wSetIxH, wCount, wIndex, wIsE, wListRg1, wListRg2, wYes, wIs, wIz, wIl, wIt, wIr1, wIr2, wSlS, wPop, wAppPop, R.wk, R.st, R.ar, R.bl, R.no, R.sq, R.slot, setsR, startR, List.map_cons, List.map_nil, List.cons_append, List.nil_append, List.length_cons, List.length_nil, List.replicate, List.getElem?_cons_zero, List.getElem?_cons_succ, Option.some.injEq, exists_eq_left', exists_eq_left, R.d.injEq, R.own.injEq, R.fr.injEq, List.set_cons_zero, List.set_cons_succ, addD, subD, mulDD, fdivD, modD, ltD, leD, gtD, geD, eqD, neD, isND, isnotND, inDD, notInDD, ixD, negD, lenD, absD, intD, min2D, max2D, listD, tupleD, slD, Nat.reduceAdd, Nat.reduceSub, Nat.add_zero, Nat.zero_add, true_and, and_true, ite_true, ite_false, if_true, if_false, Bool.false_eq_true, reduceIte, Option.some_inj, Bool.true_eq_false, tgW, tgWs, wipe3, List.set_nil])
        cases hl : okLot m b with
        | false =>
          (try simp only [wIzM, wWordV, wDc, wDn, wDGet, wDIn, wDNotIn, wDPut, wRetK, wFrzK, keyOf, R.dk.injEq, R.fk.injEq, wRev, neS, wSortLL, wSetIfO, ltDD, sortedDI, wIe, isDD, isnotDD, wPar2, sumDD, eqS, reprD, wV, wC, wNil, wCons, wTup, wLst, wOp, wUn, wCall, wT, wNot, wAnd, wOr, wB, wAndV, wOrV, wNotV, wIf, wIsi, wChain, wNo, wPart, wSl, wSet, wSetO, wTg, wPnil, wPcons, wPar, wNext, wSeq, wRet, wRetO, wRetN, wIfS, wBrk, wCnt, wDrop, wFrz, wApp, wExt, wSetIx, wAugIx, wAug, wRnil, wRcons, wFn, wRaise, wWord, wRetH, wSetIxH, wCount, wIndex, wIsE, wListRg1, wListRg2, wYes, wIs, wIz, wIl, wIt, wIr1, wIr2, wSlS, wPop, wAppPop, R.wk, R.st, R.ar, R.bl, R.no, R.sq, R.slot, setsR, startR, List.map_cons, List.map_nil, List.cons_append, List.nil_append, List.length_cons, List.length_nil, List.replicate, List.getElem?_cons_zero, List.getElem?_cons_succ, Option.some.injEq, exists_eq_left', exists_eq_left, R.d.injEq, R.own.injEq, R.fr.injEq, List.set_cons_zero, List.set_cons_succ, addD, subD, mulDD, fdivD, modD, ltD, leD, gtD, geD, eqD, neD, isND, isnotND, inDD, notInDD, ixD, negD, lenD, absD, intD, min2D, max2D, listD, tupleD, slD, Nat.reduceAdd, Nat.reduceSub, Nat.add_zero, Nat.zero_add, true_and, and_true, ite_true, ite_false, if_true, if_false, Bool.false_eq_true, reduceIte, Option.some_inj, Bool.true_eq_false, tgW, tgWs, wipe3, List.set_nil, Bool.not_false])
          have e : okStep j m (.tuple [a, b]) = false := by
            unfold okStep
            split
            · rename_i e
              injection e with e
              injection e with e1 e2
              injection e2 with e2 _
              subst e2
              rw [hl, Bool.and_false, Bool.false_and]
            · rfl
          rw [e] at h
          exact h
        | true =>
          obtain ⟨ns, rfl, _⟩ := lot_of hl
          (try simp only [wIzM, wWordV, wDc, wDn, wDGet, wDIn, wDNotIn, wDPut, wRetK, wFrzK, keyOf, R.dk.injEq, R.fk.injEq, wRev, neS, wSortLL, wSetIfO, ltDD, sortedDI, wIe, isDD, isnotDD, wPar2, sumDD, eqS, reprD, wV, wC, wNil, wCons, wTup, wLst, wOp, wUn, wCall, wT, wNot, wAnd, wOr, wB, wAndV, wOrV, wNotV, wIf, wIsi, wChain, wNo, wPart, wSl, wSet, wSetO, wTg, wPnil, wPcons, wPar, wNext, wSeq, wRet, wRetO, wRetN, wIfS, wBrk, wCnt, wDrop, wFrz, wApp, wExt, wSetIx, wAugIx, wAug, wRnil, wRcons, wFn, wRaise, wWord, wRetH, wSetIxH, wCount, wIndex, wIsE, wListRg1, wListRg2, wYes, wIs, wIz, wIl, wIt, wIr1, wIr2, wSlS, wPop, wAppPop, R.wk, R.st, R.ar, R.bl, R.no, R.sq, R.slot, setsR, startR, List.map_cons, List.map_nil, List.cons_append, List.nil_append, List.length_cons, List.length_nil, List.replicate, List.getElem?_cons_zero, List.getElem?_cons_succ, Option.some.injEq, exists_eq_left', exists_eq_left, R.d.injEq, R.own.injEq, R.fr.injEq, List.set_cons_zero, List.set_cons_succ, addD, subD, mulDD, fdivD, modD, ltD, leD, gtD, geD, eqD, neD, isND, isnotND, inDD, notInDD, ixD, negD, lenD, absD, intD, min2D, max2D, listD, tupleD, slD, Nat.reduceAdd, Nat.reduceSub, Nat.add_zero, Nat.zero_add, true_and, and_true, ite_true, ite_false, if_true, if_false, Bool.false_eq_true, reduceIte, Option.some_inj, Bool.true_eq_false, tgW, tgWs, wipe3, List.set_nil, Bool.not_true])
          refine ⟨rfl, (lay_ints _).sh, ?_⟩
          have e : okStep j m (.tuple [a, tupI ns]) = !((ns.map PyData.int).any fun z => z.eqv (.int j)) := by
            show (within a 1 600 && okLot m (tupI ns) && _) = _
            rw [hw, hl]
            rfl
          rw [e] at h
          exact h
    | .tuple [], hs, _ => simp [sized] at hs
    | .tuple [_], hs, _ => simp [sized] at hs
    | .tuple (_ :: _ :: _ :: _), hs, _ =>
      simp [sized] at hs
      omega
    | .none, hs, _ | .bool _, hs, _ | .int _, hs, _ | .str _, hs, _ | .list _, hs, _ | .dict _, hs, _ => simp [sized] at hs
theorem ok_is_step (D : Txt K mg base T) : Cal false P w K mg base T 4 "is_step" C_is_step :=
  cal_of (wb := w_is_step) D.d_is_step sc_is_step bi_is_step l_is_step (fun f cdv A outer s H E hp hr hgd => ess_cons (es_if (PW.pt (ew_or (et_not (et_val (ev_fnC (ok_is_sized D) hr (by decide) (fun h => by cases h) rfl pass_cx (er_cons (ev_var (pv 0)) (er_cons (ev_int) (er_cons (ev_int) (er_nil))))))) (ew_or (et_not (et_val (ev_fnC (ok_is_within D) hr (by decide) (fun h => by cases h) rfl pass_cx (er_cons (ev_ix ix_D (ev_var (pv 0)) (ev_int) (fun _ _ => rfl)) (er_cons (ev_int) (er_cons (ev_gi rfl D.c_MOST_MINUTES) (er_nil))))))) (ew_or1 (et_not (et_val (ev_fnC (ok_is_lot D) hr (by decide) (fun h => by cases h) rfl pass_cx (er_cons (ev_ix ix_D (ev_var (pv 0)) (ev_int) (fun _ _ => rfl)) (er_cons (ev_var (pv 2)) (er_nil)))))))))) (ess_one (es_ret (ev_bl))) (ess_nil)) (ess_one (es_ret (ev_cmp (op_notInDD (u65 hr)) (ev_var (pv 1)) (ev_ix ix_D (ev_var (pv 0)) (ev_int) (fun _ _ => rfl)) (by rfl))))) p_is_step
/-! ### is_stepped -/
abbrev N_is_stepped : List Str := ["thing", "number", "one"]
theorem sc_is_stepped : FnScope N_is_stepped ["thing"] (defScope s_is_stepped) := ⟨rfl, rfl, rfl, by decide +kernel, rfl, by decide +kernel, by decide +kernel⟩
theorem bi_is_stepped : BindsBy "is_stepped" s_is_stepped ["thing"] := fun _ _ _ _ _ _ us hl => match us, hl with | [_], _ => rfl
def w_is_stepped : WS := wSeq (wIfS (wNot (wT (wFn C_is_sized (wRcons (wV 0) (wRcons (wC (.int 1)) (wRcons (wC (.int 10)) (wRnil))))))) (wRet (wC (.bool false))) (wNext)) (wRet (wCall allD (wCons R.wk (wLc (wIe (wV 0)) (.tup [.one 1, .one 2]) wYes (wFn C_is_step (wRcons (wV 2) (wRcons (wV 1) (wRcons (wCall lenD (wCons R.wk (wV 0) (wNil))) (wRnil))))) [1, 2]) (wNil))))
def okAll (m : Int) : Nat → List PyData → Bool
  | _, [] => true
  | j, x :: xs => okStep j m x && okAll m (j + 1) xs
def fStep (m : Int) (y : PyData) : PyData := match y with
  | .tuple [.int j, x] => .bool (okStep j m x)
  | _ => .none
theorem okAll_of (m : Int) : ∀ (k : Nat) (xs : List PyData), ∃ bs : List Bool, (enumD k xs).map (fStep m) = bs.map .bool ∧ bs.all id = okAll m k xs
  | _, [] => ⟨[], rfl, rfl⟩
  | k, x :: xs => by
    obtain ⟨bs, e1, e2⟩ := okAll_of m (k + 1) xs
    refine ⟨okStep k m x :: bs, ?_, ?_⟩
    · rw [enumD_cons, List.map_cons, List.map_cons, e1]
      rfl
    · rw [List.all_cons, e2]
      rfl
theorem enum_mem {x : PyData} : ∀ {k : Nat} {xs : List PyData}, x ∈ enumD k xs → ∃ (j : Nat) (y : PyData), x = .tuple [.int j, y]
  | _, [], h => by cases h
  | k, y :: ys, h => by
    rw [enumD_cons] at h
    rcases List.mem_cons.mp h with rfl | h
    · exact ⟨_, _, rfl⟩
    · exact enum_mem h
def okDish (x : PyData) : Bool := match x with
  | .tuple xs => decide (1 ≤ xs.length) && decide (xs.length ≤ 10) && okAll xs.length 0 xs
  | _ => false
structure GoodD (ss : List St) : Prop where
  n1 : 1 ≤ ss.length
  n10 : ss.length ≤ 10
  ok : ∀ (i : Nat) (p : St), ss[i]? = some p → GoodS ss.length i p
theorem all_back {m : Nat} : ∀ {k : Nat} {xs : List PyData}, okAll m k xs = true → ∃ ss : List St, xs = ss.map stepD ∧ ∀ (i : Nat) (p : St), ss[i]? = some p → GoodS m (k + i) p
  | _, [], _ => ⟨[], rfl, fun i p h => by simp at h⟩
  | k, x :: xs, h => by
    rw [okAll, Bool.and_eq_true] at h
    obtain ⟨p, rfl, gp⟩ := step_of h.1
    obtain ⟨ss, rfl, g⟩ := all_back h.2
    refine ⟨p :: ss, rfl, fun i q e => ?_⟩
    cases i with
    | zero =>
      simp at e
      rw [← e]
      exact gp
    | succ i =>
      simp at e
      have := g i q e
      rw [show k + 1 + i = k + (i + 1) by omega] at this
      exact this
theorem all_ok {m : Nat} : ∀ {k : Nat} {ss : List St}, (∀ (i : Nat) (p : St), ss[i]? = some p → GoodS m (k + i) p) → okAll m k (ss.map stepD) = true
  | _, [], _ => rfl
  | k, p :: ss, h => by
    rw [List.map_cons, okAll, Bool.and_eq_true]
    refine ⟨step_ok (h 0 p rfl), all_ok fun i q e => ?_⟩
    have := h (i + 1) q (by simpa using e)
    rw [show k + 1 + i = k + (i + 1) by omega]
    exact this
theorem dish_of {x : PyData} (h : okDish x = true) : ∃ ss, x = dsD ss ∧ GoodD ss := by
  unfold okDish at h
  split at h
  · rename_i xs
    simp only [Bool.and_eq_true, decide_eq_true_eq] at h
    obtain ⟨⟨h1, h2⟩, h3⟩ := h
    obtain ⟨ss, e, g⟩ := all_back h3
    have hl : xs.length = ss.length := by rw [e, List.length_map]
    refine ⟨ss, by rw [e], by omega, by omega, fun i p hp => ?_⟩
    have := g i p hp
    rw [hl, Nat.zero_add] at this
    exact this
  · cases h
theorem dish_ok {ss : List St} (g : GoodD ss) : okDish (dsD ss) = true := by
  show (decide (1 ≤ (ss.map stepD).length) && decide ((ss.map stepD).length ≤ 10) && okAll (ss.map stepD).length 0 (ss.map stepD)) = true
  rw [List.length_map, decide_eq_true g.n1, decide_eq_true g.n10, all_ok (m := ss.length) fun i p h => by rw [Nat.zero_add]; exact g.ok i p h]
  rfl
theorem stepD_inj {p q : St} (h : stepD p = stepD q) : p = q := by
  injection h with h
  injection h with h1 h2
  injection h2 with h2 _
  injection h1 with h1
  exact Prod.ext h1 (natI_inj (tupI_inj h2))
theorem dsD_inj {a b : List St} (h : dsD a = dsD b) : a = b := by
  injection h with h
  exact List.map_inj_right (fun a b h => stepD_inj h) |>.mp h
def C_is_stepped : Ct := fun rs Q _ => ∃ x, rs = [.d x] ∧ Q (.d (.bool (okDish x)))
theorem l_is_stepped : ∀ rs Q X, C_is_stepped rs Q X → rs.length = 1 := by
  rintro rs Q X ⟨_, rfl, _⟩
  rfl
theorem p_is_stepped : ∀ rs Q X, C_is_stepped rs Q X → w_is_stepped ⟨fun _ => Q (.d .none), Q, fun _ => False, fun _ => False⟩ (startR N_is_stepped rs) X := by
  rintro rs Q X ⟨x, rfl, h⟩
  (try simp only [wIzM, wWordV, wDc, wDn, wDGet, wDIn, wDNotIn, wDPut, wRetK, wFrzK, keyOf, R.dk.injEq, R.fk.injEq, wRev, neS, wSortLL, wSetIfO, ltDD, sortedDI, wIe, isDD, isnotDD, wPar2, sumDD, eqS, reprD, wV, wC, wNil, wCons, wTup, wLst, wOp, wUn, wCall, wT, wNot, wAnd, wOr, wB, wAndV, wOrV, wNotV, wIf, wIsi, wChain, wNo, wPart, wSl, wSet, wSetO, wTg, wPnil, wPcons, wPar, wNext, wSeq, wRet, wRetO, wRetN, wIfS, wBrk, wCnt, wDrop, wFrz, wApp, wExt, wSetIx, wAugIx, wAug, wRnil, wRcons, wFn, wRaise, wWord, wRetH, wSetIxH, wCount, wIndex, wIsE, wListRg1, wListRg2, wYes, wIs, wIz, wIl, wIt, wIr1, wIr2, wSlS, wPop, wAppPop, R.wk, R.st, R.ar, R.bl, R.no, R.sq, R.slot, setsR, startR, List.map_cons, List.map_nil, List.cons_append, List.nil_append, List.length_cons, List.length_nil, List.replicate, List.getElem?_cons_zero, List.getElem?_cons_succ, Option.some.injEq, exists_eq_left', exists_eq_left, R.d.injEq, R.own.injEq, R.fr.injEq, List.set_cons_zero, List.set_cons_succ, addD, subD, mulDD, fdivD, modD, ltD, leD, gtD, geD, eqD, neD, isND, isnotND, inDD, notInDD, ixD, negD, lenD, absD, intD, min2D, max2D, listD, tupleD, slD, Nat.reduceAdd, Nat.reduceSub, Nat.add_zero, Nat.zero_add, true_and, and_true, ite_true, ite_false, if_true, if_false, Bool.false_eq_true, reduceIte, Option.some_inj, Bool.true_eq_false, tgW, tgWs, wipe3, List.set_nil, w_is_stepped, C_is_sized])
  refine ⟨x, 1, 10, rfl, ?_⟩
  (try simp only [wIzM, wWordV, wDc, wDn, wDGet, wDIn, wDNotIn, wDPut, wRetK, wFrzK, keyOf, R.dk.injEq, R.fk.injEq, wRev, neS, wSortLL, wSetIfO, ltDD, sortedDI, wIe, isDD, isnotDD, wPar2, sumDD, eqS, reprD, wV, wC, wNil, wCons, wTup, wLst, wOp, wUn, wCall, wT, wNot, wAnd, wOr, wB, wAndV, wOrV, wNotV, wIf, wIsi, wChain, wNo, wPart, wSl, wSet, wSetO, wTg, wPnil, wPcons, wPar, wNext, wSeq, wRet, wRetO, wRetN, wIfS, wBrk, wCnt, wDrop, wFrz, wApp, wExt, wSetIx, wAugIx, wAug, wRnil, wRcons, wFn, wRaise, wWord, wRetH, wSetIxH, wCount, wIndex, wIsE, wListRg1, wListRg2, wYes, wIs, wIz, wIl, wIt, wIr1, wIr2, wSlS, wPop, wAppPop, R.wk, R.st, R.ar, R.bl, R.no, R.sq, R.slot, setsR, startR, List.map_cons, List.map_nil, List.cons_append, List.nil_append, List.length_cons, List.length_nil, List.replicate, List.getElem?_cons_zero, List.getElem?_cons_succ, Option.some.injEq, exists_eq_left', exists_eq_left, R.d.injEq, R.own.injEq, R.fr.injEq, List.set_cons_zero, List.set_cons_succ, addD, subD, mulDD, fdivD, modD, ltD, leD, gtD, geD, eqD, neD, isND, isnotND, inDD, notInDD, ixD, negD, lenD, absD, intD, min2D, max2D, listD, tupleD, slD, Nat.reduceAdd, Nat.reduceSub, Nat.add_zero, Nat.zero_add, true_and, and_true, ite_true, ite_false, if_true, if_false, Bool.false_eq_true, reduceIte, Option.some_inj, Bool.true_eq_false, tgW, tgWs, wipe3, List.set_nil])
  cases x with
  | tuple xs =>
    have es : sized (.tuple xs) 1 10 = (decide (1 ≤ xs.length) && decide (xs.length ≤ 10)) := by
      show (decide ((1 : Int) ≤ (xs.length : Int)) && decide ((xs.length : Int) ≤ 10)) = _
      congr 1
      · exact decide_eq_decide.mpr (by omega)
      · exact decide_eq_decide.mpr (by omega)
    cases hs : sized (.tuple xs) 1 10 with
    | false =>
      (try simp only [wIzM, wWordV, wDc, wDn, wDGet, wDIn, wDNotIn, wDPut, wRetK, wFrzK, keyOf, R.dk.injEq, R.fk.injEq, wRev, neS, wSortLL, wSetIfO, ltDD, sortedDI, wIe, isDD, isnotDD, wPar2, sumDD, eqS, reprD, wV, wC, wNil, wCons, wTup, wLst, wOp, wUn, wCall, wT, wNot, wAnd, wOr, wB, wAndV, wOrV, wNotV, wIf, wIsi, wChain, wNo, wPart, wSl, wSet, wSetO, wTg, wPnil, wPcons, wPar, wNext, wSeq, wRet, wRetO, wRetN, wIfS, wBrk, wCnt, wDrop, wFrz, wApp, wExt, wSetIx, wAugIx, wAug, wRnil, wRcons, wFn, wRaise, wWord, wRetH, wSetIxH, wCount, wIndex, wIsE, wListRg1, wListRg2, wYes, wIs, wIz, wIl, wIt, wIr1, wIr2, wSlS, wPop, wAppPop, R.wk, R.st, R.ar, R.bl, R.no, R.sq, R.slot, setsR, startR, List.map_cons, List.map_nil, List.cons_append, List.nil_append, List.length_cons, List.length_nil, List.replicate, List.getElem?_cons_zero, List.getElem?_cons_succ, Option.some.injEq, exists_eq_left', exists_eq_left, R.d.injEq, R.own.injEq, R.fr.injEq, List.set_cons_zero, List.set_cons_succ, addD, subD, mulDD, fdivD, modD, ltD, leD, gtD, geD, eqD, neD, isND, isnotND, inDD, notInDD, ixD, negD, lenD, absD, intD, min2D, max2D, listD, tupleD, slD, Nat.reduceAdd, Nat.reduceSub, Nat.add_zero, Nat.zero_add, true_and, and_true, ite_true, ite_false, if_true, if_false, Bool.false_eq_true, reduceIte, Option.some_inj, Bool.true_eq_false, tgW, tgWs, wipe3, List.set_nil, Bool.not_false])
      have e : okDish (.tuple xs) = false := by
        show (_ && _ && _) = false
        rw [← es, hs]
        rfl
      rw [e] at h
      exact h
    | true =>
      (try simp only [wIzM, wWordV, wDc, wDn, wDGet, wDIn, wDNotIn, wDPut, wRetK, wFrzK, keyOf, R.dk.injEq, R.fk.injEq, wRev, neS, wSortLL, wSetIfO, ltDD, sortedDI, wIe, isDD, isnotDD, wPar2, sumDD, eqS, reprD, wV, wC, wNil, wCons, wTup, wLst, wOp, wUn, wCall, wT, wNot, wAnd, wOr, wB, wAndV, wOrV, wNotV, wIf, wIsi, wChain, wNo, wPart, wSl, wSet, wSetO, wTg, wPnil, wPcons, wPar, wNext, wSeq, wRet, wRetO, wRetN, wIfS, wBrk, wCnt, wDrop, wFrz, wApp, wExt, wSetIx, wAugIx, wAug, wRnil, wRcons, wFn, wRaise, wWord, wRetH, wSetIxH, wCount, wIndex, wIsE, wListRg1, wListRg2, wYes, wIs, wIz, wIl, wIt, wIr1, wIr2, wSlS, wPop, wAppPop, R.wk, R.st, R.ar, R.bl, R.no, R.sq, R.slot, setsR, startR, List.map_cons, List.map_nil, List.cons_append, List.nil_append, List.length_cons, List.length_nil, List.replicate, List.getElem?_cons_zero, List.getElem?_cons_succ, Option.some.injEq, exists_eq_left', exists_eq_left, R.d.injEq, R.own.injEq, R.fr.injEq, List.set_cons_zero, List.set_cons_succ, addD, subD, mulDD, fdivD, modD, ltD, leD, gtD, geD, eqD, neD, isND, isnotND, inDD, notInDD, ixD, negD, lenD, absD, intD, min2D, max2D, listD, tupleD, slD, Nat.reduceAdd, Nat.reduceSub, Nat.add_zero, Nat.zero_add, true_and, and_true, ite_true, ite_false, if_true, if_false, Bool.false_eq_true, reduceIte, Option.some_inj, Bool.true_eq_false, tgW, tgWs, wipe3, List.set_nil, Bool.not_true, wLc])
      refine lc_map (fStep xs.length) _ (fun y hy k hk => ?_) ?_
      · obtain ⟨j, z, rfl⟩ := enum_mem hy
        (try simp only [wIzM, wWordV, wDc, wDn, wDGet, wDIn, wDNotIn, wDPut, wRetK, wFrzK, keyOf, R.dk.injEq, R.fk.injEq, wRev, neS, wSortLL, wSetIfO, ltDD, sortedDI, wIe, isDD, isnotDD, wPar2, sumDD, eqS, reprD, wV, wC, wNil, wCons, wTup, wLst, wOp, wUn, wCall, wT, wNot, wAnd, wOr, wB, wAndV, wOrV, wNotV, wIf, wIsi, wChain, wNo, wPart, wSl, wSet, wSetO, wTg, wPnil, wPcons, wPar, wNext, wSeq, wRet, wRetO, wRetN, wIfS, wBrk, wCnt, wDrop, wFrz, wApp, wExt, wSetIx, wAugIx, wAug, wRnil, wRcons, wFn, wRaise, wWord, wRetH, wSetIxH, wCount, wIndex, wIsE, wListRg1, wListRg2, wYes, wIs, wIz, wIl, wIt, wIr1, wIr2, wSlS, wPop, wAppPop, R.wk, R.st, R.ar, R.bl, R.no, R.sq, R.slot, setsR, startR, List.map_cons, List.map_nil, List.cons_append, List.nil_append, List.length_cons, List.length_nil, List.replicate, List.getElem?_cons_zero, List.getElem?_cons_succ, Option.some.injEq, exists_eq_left', exists_eq_left, R.d.injEq, R.own.injEq, R.fr.injEq, List.set_cons_zero, List.set_cons_succ, addD, subD, mulDD, fdivD, modD, ltD, leD, gtD, geD, eqD, neD, isND, isnotND, inDD, notInDD, ixD, negD, lenD, absD, intD, min2D, max2D, listD, tupleD, slD, Nat.reduceAdd, Nat.reduceSub, Nat.add_zero, Nat.zero_add, true_and, and_true, ite_true, ite_false, if_true, if_false, Bool.false_eq_true, reduceIte, Option.some_inj, Bool.true_eq_false, tgW, tgWs, wipe3, List.set_nil, C_is_step])
        exact ⟨z, j, _, rfl, hk⟩
      · (try simp only [wIzM, wWordV, wDc, wDn, wDGet, wDIn, wDNotIn, wDPut, wRetK, wFrzK, keyOf, R.dk.injEq, R.fk.injEq, wRev, neS, wSortLL, wSetIfO, ltDD, sortedDI, wIe, isDD, isnotDD, wPar2, sumDD, eqS, reprD, wV, wC, wNil, wCons, wTup, wLst, wOp, wUn, wCall, wT, wNot, wAnd, wOr, wB, wAndV, wOrV, wNotV, wIf, wIsi, wChain, wNo, wPart, wSl, wSet, wSetO, wTg, wPnil, wPcons, wPar, wNext, wSeq, wRet, wRetO, wRetN, wIfS, wBrk, wCnt, wDrop, wFrz, wApp, wExt, wSetIx, wAugIx, wAug, wRnil, wRcons, wFn, wRaise, wWord, wRetH, wSetIxH, wCount, wIndex, wIsE, wListRg1, wListRg2, wYes, wIs, wIz, wIl, wIt, wIr1, wIr2, wSlS, wPop, wAppPop, R.wk, R.st, R.ar, R.bl, R.no, R.sq, R.slot, setsR, startR, List.map_cons, List.map_nil, List.cons_append, List.nil_append, List.length_cons, List.length_nil, List.replicate, List.getElem?_cons_zero, List.getElem?_cons_succ, Option.some.injEq, exists_eq_left', exists_eq_left, R.d.injEq, R.own.injEq, R.fr.injEq, List.set_cons_zero, List.set_cons_succ, addD, subD, mulDD, fdivD, modD, ltD, leD, gtD, geD, eqD, neD, isND, isnotND, inDD, notInDD, ixD, negD, lenD, absD, intD, min2D, max2D, listD, tupleD, slD, Nat.reduceAdd, Nat.reduceSub, Nat.add_zero, Nat.zero_add, true_and, and_true, ite_true, ite_false, if_true, if_false, Bool.false_eq_true, reduceIte, Option.some_inj, Bool.true_eq_false, tgW, tgWs, wipe3, List.set_nil, allD])
        obtain ⟨bs, e1, e2⟩ := okAll_of xs.length 0 xs
        refine ⟨bs, e1, ?_⟩
        rw [e2]
        have e : okDish (.tuple xs) = okAll xs.length 0 xs := by
          show (_ && _ && _) = _
          rw [← es, hs]
          rfl
        rw [e] at h
        exact h
  | _ =>
    (try simp only [wIzM, wWordV, wDc, wDn, wDGet, wDIn, wDNotIn, wDPut, wRetK, wFrzK, keyOf, R.dk.injEq, R.fk.injEq, wRev, neS, wSortLL, wSetIfO, ltDD, sortedDI, wIe, isDD, isnotDD, wPar2, sumDD, eqS, reprD, wV, wC, wNil, wCons, wTup, wLst, wOp, wUn, wCall, wT, wNot, wAnd, wOr, wB, wAndV, wOrV, wNotV, wIf, wIsi, wChain, wNo, wPart, wSl, wSet, wSetO, wTg, wPnil, wPcons, wPar, wNext, wSeq, wRet, wRetO, wRetN, wIfS, wBrk, wCnt, wDrop, wFrz, wApp, wExt, wSetIx, wAugIx, wAug, wRnil, wRcons, wFn, wRaise, wWord, wRetH, wSetIxH, wCount, wIndex, wIsE, wListRg1, wListRg2, wYes, wIs, wIz, wIl, wIt, wIr1, wIr2, wSlS, wPop, wAppPop, R.wk, R.st, R.ar, R.bl, R.no, R.sq, R.slot, setsR, startR, List.map_cons, List.map_nil, List.cons_append, List.nil_append, List.length_cons, List.length_nil, List.replicate, List.getElem?_cons_zero, List.getElem?_cons_succ, Option.some.injEq, exists_eq_left', exists_eq_left, R.d.injEq, R.own.injEq, R.fr.injEq, List.set_cons_zero, List.set_cons_succ, addD, subD, mulDD, fdivD, modD, ltD, leD, gtD, geD, eqD, neD, isND, isnotND, inDD, notInDD, ixD, negD, lenD, absD, intD, min2D, max2D, listD, tupleD, slD, Nat.reduceAdd, Nat.reduceSub, Nat.add_zero, Nat.zero_add, true_and, and_true, ite_true, ite_false, if_true, if_false, Bool.false_eq_true, reduceIte, Option.some_inj, Bool.true_eq_false, tgW, tgWs, wipe3, List.set_nil, sized, Bool.not_false])
    exact h
theorem ok_is_stepped (D : Txt K mg base T) : Cal false P w K mg base T 5 "is_stepped" C_is_stepped :=
  cal_of (wb := w_is_stepped) D.d_is_stepped sc_is_stepped bi_is_stepped l_is_stepped (fun f cdv A outer s H E hp hr hgd => ess_cons (es_if (et_not (et_val (ev_fnC (ok_is_sized D) hr (by decide) (fun h => by cases h) rfl pass_cx (er_cons (ev_var (pv 0)) (er_cons (ev_int) (er_cons (ev_gi rfl D.c_MOST_STEPS) (er_nil))))))) (ess_one (es_ret (ev_bl))) (ess_nil)) (ess_one (es_ret (ev_callB (cr_allD rfl) rfl D.n_all bb_all (el_cons selW (ev_lc (own := [("number", 1), ("one", 2)]) (g := .tup [.one 1, .one 2]) rfl sc_is_stepped.nd (ei_enum rfl D.n_enumerate (ev_var (pv 0))) (blkOk_by (N := N_is_stepped) (sc := defScope s_is_stepped) (by decide +kernel)) (by decide) (fun _ _ _ _ _ => pg_tup rfl (pgs_cons (pg_name (i := 1) sc_is_stepped.nd rfl (Or.inl rfl)) (pgs_cons (pg_name (i := 2) sc_is_stepped.nd rfl (Or.inl rfl)) (pgs_nil)))) (fun _ _ _ _ _ => eb_yes) (fun _ _ _ _ _ => ev_fnC (ok_is_step D) hr (by decide) (fun h => by cases h) rfl passL (er_cons (ev_var (pv 2)) (er_cons (ev_var (pv 1)) (er_cons (ev_callB cr_len rfl D.n_len bb_len (el_cons selW (ev_var (pv 0)) (el_nil))) (er_nil)))))) (el_nil)))))) p_is_stepped
/-! ### check_dish -/
abbrev N_check_dish : List Str := ["thing"]
theorem sc_check_dish : FnScope N_check_dish ["thing"] (defScope s_check_dish) := ⟨rfl, rfl, rfl, by decide +kernel, rfl, by decide +kernel, by decide +kernel⟩
theorem bi_check_dish : BindsBy "check_dish" s_check_dish ["thing"] := fun _ _ _ _ _ _ us hl => match us, hl with | [_], _ => rfl
def w_check_dish : WS := wIfS (wNot (wT (wFn C_is_stepped (wRcons (wV 0) (wRnil))))) (wRaise "NoDish") (wNext)
def C_check_dish : Ct := fun rs Q X => ∃ x, rs = [.d x] ∧ (okDish x = false → X ⟨"NoDish", none⟩) ∧ (okDish x = true → Q (.d .none))
theorem l_check_dish : ∀ rs Q X, C_check_dish rs Q X → rs.length = 1 := by
  rintro rs Q X ⟨_, rfl, _⟩
  rfl
theorem p_check_dish : ∀ rs Q X, C_check_dish rs Q X → w_check_dish ⟨fun _ => Q (.d .none), Q, fun _ => False, fun _ => False⟩ (startR N_check_dish rs) X := by
  rintro rs Q X ⟨x, rfl, h1, h2⟩
  (try simp only [wIzM, wWordV, wDc, wDn, wDGet, wDIn, wDNotIn, wDPut, wRetK, wFrzK, keyOf, R.dk.injEq, R.fk.injEq, wRev, neS, wSortLL, wSetIfO, ltDD, sortedDI, wIe, isDD, isnotDD, wPar2, sumDD, eqS, reprD, wV, wC, wNil, wCons, wTup, wLst, wOp, wUn, wCall, wT, wNot, wAnd, wOr, wB, wAndV, wOrV, wNotV, wIf, wIsi, wChain, wNo, wPart, wSl, wSet, wSetO, wTg, wPnil, wPcons, wPar, wNext, wSeq, wRet, wRetO, wRetN, wIfS, wBrk, wCnt, wDrop, wFrz, wApp, wExt, wSetIx, wAugIx, wAug, wRnil, wRcons, wFn, wRaise, wWord, wRetH, wSetIxH, wCount, wIndex, wIsE, wListRg1, wListRg2, wYes, wIs, wIz, wIl, wIt, wIr1, wIr2, wSlS, wPop, wAppPop, R.wk, R.st, R.ar, R.bl, R.no, R.sq, R.slot, setsR, startR, List.map_cons, List.map_nil, List.cons_append, List.nil_append, List.length_cons, List.length_nil, List.replicate, List.getElem?_cons_zero, List.getElem?_cons_succ, Option.some.injEq, exists_eq_left', exists_eq_left, R.d.injEq, R.own.injEq, R.fr.injEq, List.set_cons_zero, List.set_cons_succ, addD, subD, mulDD, fdivD, modD, ltD, leD, gtD, geD, eqD, neD, isND, isnotND, inDD, notInDD, ixD, negD, lenD, absD, intD, min2D, max2D, listD, tupleD, slD, Nat.reduceAdd, Nat.reduceSub, Nat.add_zero, Nat.zero_add, true_and, and_true, ite_true, ite_false, if_true, if_false, Bool.false_eq_true, reduceIte, Option.some_inj, Bool.true_eq_false, tgW, tgWs, wipe3, List.set_nil, w_check_dish, C_is_stepped])
  refine ⟨x, rfl, ?_⟩
  (try simp only [wIzM, wWordV, wDc, wDn, wDGet, wDIn, wDNotIn, wDPut, wRetK, wFrzK, keyOf, R.dk.injEq, R.fk.injEq, wRev, neS, wSortLL, wSetIfO, ltDD, sortedDI, wIe, isDD, isnotDD, wPar2, sumDD, eqS, reprD, wV, wC, wNil, wCons, wTup, wLst, wOp, wUn, wCall, wT, wNot, wAnd, wOr, wB, wAndV, wOrV, wNotV, wIf, wIsi, wChain, wNo, wPart, wSl, wSet, wSetO, wTg, wPnil, wPcons, wPar, wNext, wSeq, wRet, wRetO, wRetN, wIfS, wBrk, wCnt, wDrop, wFrz, wApp, wExt, wSetIx, wAugIx, wAug, wRnil, wRcons, wFn, wRaise, wWord, wRetH, wSetIxH, wCount, wIndex, wIsE, wListRg1, wListRg2, wYes, wIs, wIz, wIl, wIt, wIr1, wIr2, wSlS, wPop, wAppPop, R.wk, R.st, R.ar, R.bl, R.no, R.sq, R.slot, setsR, startR, List.map_cons, List.map_nil, List.cons_append, List.nil_append, List.length_cons, List.length_nil, List.replicate, List.getElem?_cons_zero, List.getElem?_cons_succ, Option.some.injEq, exists_eq_left', exists_eq_left, R.d.injEq, R.own.injEq, R.fr.injEq, List.set_cons_zero, List.set_cons_succ, addD, subD, mulDD, fdivD, modD, ltD, leD, gtD, geD, eqD, neD, isND, isnotND, inDD, notInDD, ixD, negD, lenD, absD, intD, min2D, max2D, listD, tupleD, slD, Nat.reduceAdd, Nat.reduceSub, Nat.add_zero, Nat.zero_add, true_and, and_true, ite_true, ite_false, if_true, if_false, Bool.false_eq_true, reduceIte, Option.some_inj, Bool.true_eq_false, tgW, tgWs, wipe3, List.set_nil])
  cases hx : okDish x with
  | false =>
    (try simp only [wIzM, wWordV, wDc, wDn, wDGet, wDIn, wDNotIn, wDPut, wRetK, wFrzK, keyOf, R.dk.injEq, R.fk.injEq, wRev, neS, wSortLL, wSetIfO, ltDD, sortedDI, wIe, isDD, isnotDD, wPar2, sumDD, eqS, reprD, wV, wC, wNil, wCons, wTup, wLst, wOp, wUn, wCall, wT, wNot, wAnd, wOr, wB, wAndV, wOrV, wNotV, wIf, wIsi, wChain, wNo, wPart, wSl, wSet, wSetO, wTg, wPnil, wPcons, wPar, wNext, wSeq, wRet, wRetO, wRetN, wIfS, wBrk, wCnt, wDrop, wFrz, wApp, wExt, wSetIx, wAugIx, wAug, wRnil, wRcons, wFn, wRaise, wWord, wRetH, wSetIxH, wCount, wIndex, wIsE, wListRg1, wListRg2, wYes, wIs, wIz, wIl, wIt, wIr1, wIr2, wSlS, wPop, wAppPop, R.wk, R.st, R.ar, R.bl, R.no, R.sq, R.slot, setsR, startR, List.map_cons, List.map_nil, List.cons_append, List.nil_append, List.length_cons, List.length_nil, List.replicate, List.getElem?_cons_zero, List.getElem?_cons_succ, Option.some.injEq, exists_eq_left', exists_eq_left, R.d.injEq, R.own.injEq, R.fr.injEq, List.set_cons_zero, List.set_cons_succ, addD, subD, mulDD, fdivD, modD, ltD, leD, gtD, geD, eqD, neD, isND, isnotND, inDD, notInDD, ixD, negD, lenD, absD, intD, min2D, max2D, listD, tupleD, slD, Nat.reduceAdd, Nat.reduceSub, Nat.add_zero, Nat.zero_add, true_and, and_true, ite_true, ite_false, if_true, if_false, Bool.false_eq_true, reduceIte, Option.some_inj, Bool.true_eq_false, tgW, tgWs, wipe3, List.set_nil, Bool.not_false])
    exact h1 hx
  | true =>
    (try simp only [wIzM, wWordV, wDc, wDn, wDGet, wDIn, wDNotIn, wDPut, wRetK, wFrzK, keyOf, R.dk.injEq, R.fk.injEq, wRev, neS, wSortLL, wSetIfO, ltDD, sortedDI, wIe, isDD, isnotDD, wPar2, sumDD, eqS, reprD, wV, wC, wNil, wCons, wTup, wLst, wOp, wUn, wCall, wT, wNot, wAnd, wOr, wB, wAndV, wOrV, wNotV, wIf, wIsi, wChain, wNo, wPart, wSl, wSet, wSetO, wTg, wPnil, wPcons, wPar, wNext, wSeq, wRet, wRetO, wRetN, wIfS, wBrk, wCnt, wDrop, wFrz, wApp, wExt, wSetIx, wAugIx, wAug, wRnil, wRcons, wFn, wRaise, wWord, wRetH, wSetIxH, wCount, wIndex, wIsE, wListRg1, wListRg2, wYes, wIs, wIz, wIl, wIt, wIr1, wIr2, wSlS, wPop, wAppPop, R.wk, R.st, R.ar, R.bl, R.no, R.sq, R.slot, setsR, startR, List.map_cons, List.map_nil, List.cons_append, List.nil_append, List.length_cons, List.length_nil, List.replicate, List.getElem?_cons_zero, List.getElem?_cons_succ, Option.some.injEq, exists_eq_left', exists_eq_left, R.d.injEq, R.own.injEq, R.fr.injEq, List.set_cons_zero, List.set_cons_succ, addD, subD, mulDD, fdivD, modD, ltD, leD, gtD, geD, eqD, neD, isND, isnotND, inDD, notInDD, ixD, negD, lenD, absD, intD, min2D, max2D, listD, tupleD, slD, Nat.reduceAdd, Nat.reduceSub, Nat.add_zero, Nat.zero_add, true_and, and_true, ite_true, ite_false, if_true, if_false, Bool.false_eq_true, reduceIte, Option.some_inj, Bool.true_eq_false, tgW, tgWs, wipe3, List.set_nil, Bool.not_true])
    exact h2 hx
theorem ok_check_dish (D : Txt K mg base T) : Cal false P w K mg base T 6 "check_dish" C_check_dish :=
  cal_of (wb := w_check_dish) D.d_check_dish sc_check_dish bi_check_dish l_check_dish (fun f cdv A outer s H E hp hr hgd => ess_one (es_if (et_not (et_val (ev_fnC (ok_is_stepped D) hr (by decide) (fun h => by cases h) rfl pass_cx (er_cons (ev_var (pv 0)) (er_nil))))) (ess_one (es_raiseE rfl (takes_of rfl rfl rfl rfl) D.x_NoDish rfl)) (ess_nil))) p_check_dish
/-! ### raw_order -/
abbrev N_raw_order : List Str := ["dish", "found", "some", "at", "one"]
theorem sc_raw_order : FnScope N_raw_order ["dish"] (defScope s_raw_order) := ⟨rfl, rfl, rfl, by decide +kernel, rfl, by decide +kernel, by decide +kernel⟩
theorem bi_raw_order : BindsBy "raw_order" s_raw_order ["dish"] := fun _ _ _ _ _ _ us hl => match us, hl with | [_], _ => rfl
def b1_raw_order_2 : WS := wApp 1 (wOp ixD (wV 2) (wC (.int 0)))
def b1_raw_order_1 : WS := wSeq (wIfS (wT (wOp eqD (wCall lenD (wCons R.wk (wV 2) (wNil))) (wC (.int 0)))) (wRetO 1) (wNext)) (b1_raw_order_2)
def b1_raw_order : WS := wSeq (wSet 2 (wLc (wIr1 (wCall lenD (wCons R.wk (wV 0) (wNil)))) (.one 3) (wAnd (wT (wOp notInDD (wV 3) (wV 1))) (wT (wCall allD (wCons R.wk (wLc (wIs (wOp ixD (wOp ixD (wV 0) (wV 3)) (wC (.int 1)))) (.one 4) wYes (wOp inDD (wV 4) (wV 1)) [4]) (wNil))))) (wV 3) [3])) (b1_raw_order_1)
def w_raw_order_1 : WS := wWhile (wT (wC (.bool true))) (b1_raw_order)
def w_raw_order : WS := wSeq (wSetO 1 (wLst (wNil))) (w_raw_order_1)
-- splitall
def mx : List Int → Int
  | [] => 0
  | x :: l => max x (mx l)
theorem mx_nn : ∀ l : List Int, 0 ≤ mx l
  | [] => Int.le_refl 0
  | x :: l => by
    have := mx_nn l
    rw [mx]
    omega
theorem mx_ge : ∀ {l : List Int} {x : Int}, x ∈ l → x ≤ mx l
  | y :: l, x, h => by
    rw [mx]
    rcases List.mem_cons.mp h with rfl | h
    · omega
    · have := mx_ge h
      omega
theorem mx_le {M : Int} (h0 : 0 ≤ M) : ∀ {l : List Int}, (∀ x ∈ l, x ≤ M) → mx l ≤ M
  | [], _ => h0
  | y :: l, h => by
    have a := h y List.mem_cons_self
    have b := mx_le h0 fun x hx => h x (List.mem_cons_of_mem _ hx)
    rw [mx]
    omega
theorem mx_in : ∀ l : List Int, mx l = 0 ∨ mx l ∈ l
  | [] => .inl rfl
  | y :: l => by
    rw [mx]
    rcases mx_in l with h | h
    · by_cases c : 0 ≤ y
      · right
        rw [h, Int.max_eq_left c]
        exact List.mem_cons_self
      · left
        rw [h]
        omega
    · by_cases c : mx l ≤ y
      · right
        rw [Int.max_eq_left c]
        exact List.mem_cons_self
      · right
        rw [Int.max_eq_right (by omega)]
        exact List.mem_cons_of_mem _ h
theorem mx_is {l : List Int} {m : Int} (h1 : m ∈ 0 :: l) (h2 : ∀ y ∈ (0 : Int) :: l, y ≤ m) : m = mx l := by
  have a : mx l ≤ m := mx_le (h2 0 List.mem_cons_self) fun x hx => h2 x (List.mem_cons_of_mem _ hx)
  rcases List.mem_cons.mp h1 with rfl | h
  · have := mx_nn l
    omega
  · have := mx_ge h
    omega
theorem mx_congr {α : Type} {f g : α → Int} {l : List α} (h : ∀ x ∈ l, f x = g x) : mx (l.map f) = mx (l.map g) := by rw [List.map_congr_left h]

def Wf (ss : List St) (i : Nat) : List Nat := (ss.getD i (0, [])).2
def df (ss : List St) (i : Nat) : Int := (ss.getD i (0, [])).1
def lp (W : Nat → List Nat) (d : Nat → Int) : Nat → Nat → Int
  | 0, _ => 0
  | k + 1, i => mx ((W i).map fun w => lp W d k w + d w)
structure Rk (W : Nat → List Nat) (n : Nat) (r : Nat → Nat) : Prop where
  lt : ∀ i, i < n → r i < n
  dn : ∀ i, i < n → ∀ w ∈ W i, w < n ∧ r w < r i
section
variable {W : Nat → List Nat} {d : Nat → Int} {n : Nat} {r : Nat → Nat}
theorem lp_stab (h : Rk W n r) : ∀ k i, i < n → r i < k → lp W d k i = lp W d (k + 1) i
  | 0, i, _, c => by omega
  | k + 1, i, hi, c => by
    rw [lp, lp]
    refine mx_congr fun w hw => ?_
    obtain ⟨a, b⟩ := h.dn i hi w hw
    rw [lp_stab h k w a (by omega)]
theorem lp_eq (h : Rk W n r) {i : Nat} (hi : i < n) : lp W d n i = mx ((W i).map fun w => lp W d n w + d w) := by
  rw [lp_stab h n i hi (h.lt i hi), lp]
theorem lp_nn (k i : Nat) : 0 ≤ lp W d k i := by
  cases k with
  | zero => exact Int.le_refl 0
  | succ k => rw [lp]; exact mx_nn _
theorem lp_ge (h : Rk W n r) {i w : Nat} (hi : i < n) (hw : w ∈ W i) : lp W d n w + d w ≤ lp W d n i := by
  rw [lp_eq h hi]
  exact mx_ge (List.mem_map.mpr ⟨w, hw, rfl⟩)
theorem lp_le (h : Rk W n r) {i : Nat} {M : Int} (hi : i < n) (h0 : 0 ≤ M) (hM : ∀ w ∈ W i, lp W d n w + d w ≤ M) : lp W d n i ≤ M := by
  rw [lp_eq h hi]
  refine mx_le h0 fun x hx => ?_
  obtain ⟨w, hw, rfl⟩ := List.mem_map.mp hx
  exact hM w hw
theorem lp_or (h : Rk W n r) {i : Nat} (hi : i < n) : lp W d n i = 0 ∨ ∃ w ∈ W i, lp W d n i = lp W d n w + d w := by
  rw [lp_eq h hi]
  rcases mx_in ((W i).map fun w => lp W d n w + d w) with c | c
  · exact .inl c
  · obtain ⟨w, hw, e⟩ := List.mem_map.mp c
    exact .inr ⟨w, hw, e.symm⟩
/-- what comes behind -/
def Wr (W : Nat → List Nat) (n : Nat) (i : Nat) : List Nat := (List.range n).filter fun j => (W j).contains i
theorem wr_mem {i j : Nat} : j ∈ Wr W n i ↔ j < n ∧ i ∈ W j := by
  unfold Wr
  rw [List.mem_filter, List.mem_range, List.contains_iff_mem]
theorem rk_rev (h : Rk W n r) : Rk (Wr W n) n fun i => n - 1 - r i := by
  refine ⟨fun i hi => by show n - 1 - r i < n; omega, fun i hi w hw => ?_⟩
  obtain ⟨a, b⟩ := wr_mem.mp hw
  obtain ⟨_, c⟩ := h.dn w a i b
  have := h.lt w a
  exact ⟨a, by show n - 1 - r w < n - 1 - r i; omega⟩
def eL (W : Nat → List Nat) (d : Nat → Int) (n : Nat) : Int := mx ((List.range n).map fun i => lp W d n i + d i)
theorem el_ge {i : Nat} (hi : i < n) : lp W d n i + d i ≤ eL W d n := mx_ge (List.mem_map.mpr ⟨i, List.mem_range.mpr hi, rfl⟩)
theorem el_le {M : Int} (h0 : 0 ≤ M) (h : ∀ i, i < n → lp W d n i + d i ≤ M) : eL W d n ≤ M := mx_le h0 fun x hx => by
  obtain ⟨i, hi, rfl⟩ := List.mem_map.mp hx
  exact h i (List.mem_range.mp hi)
theorem path_le (h : Rk W n r) : ∀ (k i : Nat), i < n → n - r i ≤ k → lp W d n i + d i + lp (Wr W n) d n i ≤ eL W d n
  | 0, i, hi, c => by
    have := h.lt i hi
    omega
  | k + 1, i, hi, c => by
    rcases lp_or (d := d) (rk_rev h) hi with e | ⟨j, hj, e⟩
    · rw [e]
      have := el_ge (W := W) (d := d) hi
      omega
    · obtain ⟨a, b⟩ := wr_mem.mp hj
      have z := h.dn j a i b
      have := h.lt j a
      have ih := path_le h k j a (by omega)
      have g := lp_ge (d := d) h a b
      rw [e]
      omega
theorem crit (h : Rk W n r) (hn : 0 < n) (hd : ∀ i, i < n → 0 < d i) : ∃ i, i < n ∧ lp W d n i + d i + lp (Wr W n) d n i = eL W d n := by
  rcases mx_in ((List.range n).map fun i => lp W d n i + d i) with c | c
  · have a := el_ge (W := W) (d := d) hn
    have b := hd 0 hn
    have e := lp_nn (W := W) (d := d) n 0
    unfold eL at a
    omega
  · obtain ⟨i, hi, e⟩ := List.mem_map.mp c
    rw [List.mem_range] at hi
    refine ⟨i, hi, ?_⟩
    have a := path_le (d := d) h n i hi (by omega)
    have b := lp_nn (W := Wr W n) (d := d) n i
    unfold eL at a ⊢
    omega
theorem lp_mono (h : Rk W n r) {d' : Nat → Int} (hd : ∀ i, i < n → d i ≤ d' i) : ∀ (k i : Nat), i < n → r i < k → lp W d n i ≤ lp W d' n i
  | 0, i, _, c => by omega
  | k + 1, i, hi, c => lp_le h hi (lp_nn _ _) fun w hw => by
    obtain ⟨a, b⟩ := h.dn i hi w hw
    have ih := lp_mono h hd k w a (by omega)
    have g := lp_ge (d := d') h hi hw
    have := hd w a
    omega
theorem lp_same (h : Rk W n r) {d' : Nat → Int} {s : Nat} (hs : s < n) (hd : ∀ i, i ≠ s → d' i = d i) : ∀ (k i : Nat), i < n → r i ≤ r s → r i < k → lp W d' n i = lp W d n i
  | 0, i, _, _, c => by omega
  | k + 1, i, hi, c1, c => by
    rw [lp_eq h hi, lp_eq h hi]
    refine mx_congr fun w hw => ?_
    obtain ⟨a, b⟩ := h.dn i hi w hw
    rw [lp_same h hs hd k w a (by omega) (by omega), hd w fun e => by rw [e] at b; omega]
theorem stretch (h : Rk W n r) {d' : Nat → Int} {s : Nat} {δ : Int} (hs : s < n) (h0 : 0 ≤ δ) (hd0 : ∀ i, i < n → 0 ≤ d i) (hd : ∀ i, i ≠ s → d' i = d i) (hds : d' s = d s + δ) :
    eL W d' n = max (eL W d n) (lp W d n s + d s + lp (Wr W n) d n s + δ) := by
  have hdd : ∀ i, i < n → d i ≤ d' i := fun i _ => by
    by_cases c : i = s
    · rw [c, hds]; omega
    · rw [hd i c]; omega
  have up : ∀ i, i < n → d i + lp (Wr W n) d n i ≤ eL W d n := fun i hi => by
    have := path_le (d := d) h n i hi (by omega)
    have := lp_nn (W := W) (d := d) n i
    omega
  have low1 : eL W d n ≤ eL W d' n := by
    refine el_le ?_ fun i hi => ?_
    · unfold eL
      exact mx_nn _
    · have := lp_mono h hdd n i hi (h.lt i hi)
      have := el_ge (W := W) (d := d') hi
      have := hdd i hi
      omega
  have low2 : lp W d n s + d s + lp (Wr W n) d n s + δ ≤ eL W d' n := by
    have a := path_le (d := d') h n s hs (by omega)
    have b := lp_mono h hdd n s hs (h.lt s hs)
    have c := lp_mono (rk_rev h) hdd n s hs (by have := h.lt s hs; show n - 1 - r s < n; omega)
    rw [hds] at a
    omega
  have ss : lp W d' n s = lp W d n s := lp_same h hs hd n s hs (Nat.le_refl _) (h.lt s hs)
  have hi2 : ∀ k i, i < n → r i < k → lp W d' n i + d i + lp (Wr W n) d n i ≤ max (eL W d n) (lp W d n s + d s + lp (Wr W n) d n s + δ) := by
    intro k
    induction k with
    | zero => intro i _ c; omega
    | succ k ih =>
      intro i hi c
      rcases lp_or (d := d') h hi with e | ⟨w, hw, e⟩
      · rw [e]
        have := up i hi
        omega
      · obtain ⟨a, b⟩ := h.dn i hi w hw
        have g := lp_ge (d := d) (rk_rev h) a (wr_mem.mpr ⟨hi, hw⟩)
        by_cases cw : w = s
        · subst cw
          rw [e, ss, hds]
          omega
        · have := ih w a (by omega)
          rw [e, hd w cw]
          omega
  have high : eL W d' n ≤ max (eL W d n) (lp W d n s + d s + lp (Wr W n) d n s + δ) := by
    refine el_le ?_ fun i hi => ?_
    · have : 0 ≤ eL W d n := by
        unfold eL
        exact mx_nn _
      omega
    · by_cases c : i = s
      · subst c
        rw [ss, hds]
        have := lp_nn (W := Wr W n) (d := d) n i
        omega
      · have := hi2 n i hi (h.lt i hi)
        have b := lp_nn (W := Wr W n) (d := d) n i
        rw [hd i c]
        omega
  omega
end
theorem nd_len : ∀ {f g : List Nat}, f.Nodup → (∀ a ∈ f, a ∈ g) → f.length ≤ g.length
  | [], _, _, _ => Nat.zero_le _
  | a :: f, g, nd, h => by
    obtain ⟨h1, h2⟩ := List.nodup_cons.mp nd
    have ha := h a List.mem_cons_self
    have := nd_len (g := g.erase a) h2 fun b hb => (List.mem_erase_of_ne (fun e : b = a => h1 (by rw [← e]; exact hb))).mpr (h b (List.mem_cons_of_mem _ hb))
    rw [List.length_erase_of_mem ha] at this
    have : 0 < g.length := List.length_pos_of_mem ha
    rw [List.length_cons]
    omega
def nextL (W : Nat → List Nat) (n : Nat) (f : List Nat) : List Nat := (List.range n).filter fun a => !f.contains a && (W a).all fun w => f.contains w
def ordF (W : Nat → List Nat) (n : Nat) : Nat → List Nat → List Nat
  | 0, f => f
  | k + 1, f => match nextL W n f with
    | [] => f
    | a :: _ => ordF W n k (f ++ [a])
structure Topo (W : Nat → List Nat) (n : Nat) (f : List Nat) : Prop where
  nd : f.Nodup
  lt : ∀ a ∈ f, a < n
  top : ∀ l1 a l2, f = l1 ++ a :: l2 → ∀ w ∈ W a, w ∈ l1
section
variable {W : Nat → List Nat} {d : Nat → Int} {n : Nat} {r : Nat → Nat} {f : List Nat}
theorem next_mem {a : Nat} : a ∈ nextL W n f ↔ a < n ∧ a ∉ f ∧ ∀ w ∈ W a, w ∈ f := by
  unfold nextL
  rw [List.mem_filter, List.mem_range, Bool.and_eq_true, Bool.not_eq_true', List.all_eq_true]
  constructor
  · rintro ⟨h1, h2, h3⟩
    refine ⟨h1, fun h => ?_, fun w hw => List.contains_iff_mem.mp (h3 w hw)⟩
    rw [List.contains_iff_mem.mpr h] at h2
    cases h2
  · rintro ⟨h1, h2, h3⟩
    refine ⟨h1, ?_, fun w hw => List.contains_iff_mem.mpr (h3 w hw)⟩
    cases e : f.contains a with
    | false => rfl
    | true => exact absurd (List.contains_iff_mem.mp e) h2
theorem topo_nil : Topo W n [] := ⟨List.nodup_nil, fun _ h => (by cases h), fun l1 a l2 e => (by simp at e)⟩
theorem topo_snoc {a : Nat} (t : Topo W n f) (h : a ∈ nextL W n f) : Topo W n (f ++ [a]) := by
  obtain ⟨h1, h2, h3⟩ := next_mem.mp h
  refine ⟨?_, fun b hb => ?_, fun l1 b l2 e w hw => ?_⟩
  · rw [List.nodup_append]
    refine ⟨t.nd, by simp, fun b hb c hc e => ?_⟩
    rw [List.mem_singleton] at hc
    subst hc e
    exact h2 hb
  · rcases List.mem_append.mp hb with hb | hb
    · exact t.lt b hb
    · rw [List.mem_singleton] at hb
      rw [hb]
      exact h1
  · rcases List.eq_nil_or_concat l2 with rfl | ⟨l3, c, rfl⟩
    · obtain ⟨e1, e2⟩ := List.append_inj' e rfl
      injection e2 with e2
      rw [← e1]
      rw [← e2] at hw
      exact h3 w hw
    · rw [show l1 ++ b :: l3.concat c = (l1 ++ b :: l3) ++ [c] by simp] at e
      obtain ⟨e1, _⟩ := List.append_inj' e rfl
      exact t.top l1 b l3 e1 w hw
theorem topo_le (t : Topo W n f) : f.length ≤ n := by
  have := nd_len (g := List.range n) t.nd fun a ha => List.mem_range.mpr (t.lt a ha)
  rwa [List.length_range] at this
theorem topo_all (t : Topo W n f) (h : n ≤ f.length) : ∀ i, i < n → i ∈ f := fun i hi => by
  refine Classical.byContradiction fun c => ?_
  have := nd_len (f := i :: f) (g := List.range n) (List.nodup_cons.mpr ⟨c, t.nd⟩) fun a ha => by
    rw [List.mem_range]
    rcases List.mem_cons.mp ha with rfl | ha
    · exact hi
    · exact t.lt a ha
  rw [List.length_range, List.length_cons] at this
  omega
theorem ord_inv : ∀ (k : Nat) (f : List Nat), Topo W n f → Topo W n (ordF W n k f) ∧ (n ≤ f.length + k → nextL W n (ordF W n k f) = [])
  | 0, f, t => ⟨t, fun h => by
    rw [List.eq_nil_iff_forall_not_mem]
    intro a ha
    obtain ⟨h1, h2, _⟩ := next_mem.mp ha
    exact h2 (topo_all t h a h1)⟩
  | k + 1, f, t => by
    unfold ordF
    split
    · exact ⟨t, fun _ => by assumption⟩
    · rename_i a _ e
      have z := ord_inv k (f ++ [a]) (topo_snoc t (by rw [e]; exact List.mem_cons_self))
      refine ⟨z.1, fun h => z.2 (by rw [List.length_append, List.length_singleton]; omega)⟩
theorem ord_full (h : Rk W n r) (e : nextL W n f = []) : ∀ k i, i < n → r i < k → i ∈ f
  | 0, _, _, c => by omega
  | k + 1, i, hi, c => by
    refine Classical.byContradiction fun hc => ?_
    have : i ∈ nextL W n f := next_mem.mpr ⟨hi, hc, fun w hw => by
      obtain ⟨a, b⟩ := h.dn i hi w hw
      exact ord_full h e k w a (by omega)⟩
    rw [e] at this
    cases this
theorem full_len (h : Rk W n r) : (ordF W n n []).length = n := by
  obtain ⟨t, e⟩ := ord_inv (W := W) (n := n) n [] topo_nil
  have a := topo_le t
  have b := nd_len (f := List.range n) (g := ordF W n n []) List.nodup_range fun i hi => by
    rw [List.mem_range] at hi
    exact ord_full h (e (by simp)) n i hi (h.lt i hi)
  rw [List.length_range] at b
  omega
theorem topo_rk (t : Topo W n f) (h : f.length = n) : Rk W n fun i => f.idxOf i := by
  have all := topo_all t (by omega)
  refine ⟨fun i hi => ?_, fun i hi w hw => ?_⟩
  · show f.idxOf i < n
    rw [← h]
    exact List.idxOf_lt_length_of_mem (all i hi)
  · obtain ⟨l1, l2, e⟩ := List.append_of_mem (all i hi)
    have hw1 := t.top l1 i l2 e w hw
    have nd := t.nd
    rw [e, List.nodup_append] at nd
    have hi1 : i ∉ l1 := fun c => nd.2.2 i c i List.mem_cons_self rfl
    refine ⟨t.lt w (by rw [e]; exact List.mem_append_left _ hw1), ?_⟩
    show f.idxOf w < f.idxOf i
    rw [e, List.idxOf_append, List.idxOf_append, if_pos hw1, if_neg hi1]
    have := List.idxOf_lt_length_of_mem hw1
    omega
/-! lists of values -/
abbrev gv (v : List Int) (i : Nat) : Int := v.getD i 0
theorem gv_set {v : List Int} {s i : Nat} {x : Int} (hs : s < v.length) : gv (v.set s x) i = if i = s then x else gv v i := by
  unfold gv
  rw [List.getD_eq_getElem?_getD, List.getD_eq_getElem?_getD, List.getElem?_set]
  by_cases c : s = i
  · subst c
    rw [if_pos rfl, if_pos hs, if_pos rfl]
    rfl
  · rw [if_neg c, if_neg fun e => c e.symm]
theorem vals_eq {v : List Int} {g : Nat → Int} (hl : v.length = n) (h : ∀ i, i < n → gv v i = g i) : v = (List.range n).map g := by
  apply List.ext_getElem?
  intro i
  by_cases c : i < n
  · have z := h i c
    unfold gv at z
    rw [List.getD_eq_getElem?_getD, List.getElem?_eq_getElem (by omega)] at z
    rw [List.getElem?_eq_getElem (by omega)]
    simp [c]
    exact z
  · rw [List.getElem?_eq_none (by omega), List.getElem?_eq_none (by simp; omega)]
theorem gv_range {g : Nat → Int} {i : Nat} (h : i < n) : gv ((List.range n).map g) i = g i := by
  unfold gv
  rw [List.getD_eq_getElem?_getD]
  simp [h]
/-- begins: the rounds -/
structure Bv (W : Nat → List Nat) (d : Nat → Int) (n : Nat) (P : Nat → Prop) (v : List Int) : Prop where
  len : v.length = n
  ok : ∀ i, i < n → P i → gv v i = lp W d n i
theorem bv_step (h : Rk W n r) {P : Nat → Prop} {v : List Int} (b : Bv W d n P v) {s : Nat} (hs : s < n) (Q : Nat → Prop) (hQ : ∀ i, i < n → Q i → i = s ∨ P i) (hW : Q s → ∀ w ∈ W s, P w) : Bv W d n Q (v.set s (mx ((W s).map fun w => gv v w + d w))) := by
  refine ⟨by rw [List.length_set]; exact b.len, fun i hi q => ?_⟩
  rw [gv_set (by rw [b.len]; exact hs)]
  by_cases c : i = s
  · subst c
    rw [if_pos rfl, lp_eq h hi]
    refine mx_congr fun w hw => ?_
    rw [b.ok w (h.dn i hi w hw).1 (hW q w hw)]
  · rw [if_neg c]
    exact b.ok i hi ((hQ i hi q).resolve_left c)
/-- latest begins -/
def lL (W : Nat → List Nat) (d : Nat → Int) (n : Nat) (i : Nat) : Int := eL W d n - d i - lp (Wr W n) d n i
structure Lv (W : Nat → List Nat) (d : Nat → Int) (n : Nat) (S : Nat → Nat → Prop) (v : List Int) : Prop where
  len : v.length = n
  lo : ∀ i, i < n → lL W d n i ≤ gv v i
  hi : ∀ i, i < n → gv v i ≤ eL W d n - d i
  le : ∀ j i, i < n → S j i → gv v i ≤ lL W d n j - d i
theorem lv_start : Lv W d n (fun _ _ => False) ((List.range n).map fun i => eL W d n - d i) := by
  refine ⟨by simp, fun i hi => ?_, fun i hi => ?_, fun _ _ _ h => h.elim⟩
  · rw [gv_range hi]
    have := lp_nn (W := Wr W n) (d := d) n i
    unfold lL
    omega
  · rw [gv_range hi]
    omega
theorem lv_weak {S S' : Nat → Nat → Prop} {v : List Int} (l : Lv W d n S v) (h : ∀ j i, i < n → S' j i → S j i) : Lv W d n S' v := ⟨l.len, l.lo, l.hi, fun j i hi s => l.le j i hi (h j i hi s)⟩
theorem lv_step (h : Rk W n r) {S : Nat → Nat → Prop} {v : List Int} (l : Lv W d n S v) {s i : Nat} (hs : s < n) (hi : i ∈ W s) :
    Lv W d n (fun j k => S j k ∨ (j = s ∧ k = i ∧ gv v s = lL W d n s)) (v.set i (if gv v s - d i < gv v i then gv v s - d i else gv v i)) ∧ ∀ k, gv (v.set i (if gv v s - d i < gv v i then gv v s - d i else gv v i)) k ≤ gv v k := by
  obtain ⟨hin, _⟩ := h.dn s hs i hi
  have hil : i < v.length := by rw [l.len]; exact hin
  have mono : ∀ k, gv (v.set i (if gv v s - d i < gv v i then gv v s - d i else gv v i)) k ≤ gv v k := fun k => by
    rw [gv_set hil]
    by_cases c : k = i
    · subst c
      rw [if_pos rfl]
      split <;> omega
    · rw [if_neg c]
      omega
  have g := lp_ge (d := d) (rk_rev h) hin (wr_mem.mpr ⟨hs, hi⟩)
  refine ⟨⟨by rw [List.length_set]; exact l.len, fun k hk => ?_, fun k hk => Int.le_trans (mono k) (l.hi k hk), fun j k hk hS => ?_⟩, mono⟩
  · rw [gv_set hil]
    by_cases c : k = i
    · subst c
      rw [if_pos rfl]
      have a := l.lo s hs
      have b := l.lo k hk
      have : lL W d n k ≤ lL W d n s - d k := by
        unfold lL
        omega
      split <;> omega
    · rw [if_neg c]
      exact l.lo k hk
  · rcases hS with hS | ⟨rfl, rfl, e⟩
    · exact Int.le_trans (mono k) (l.le j k hk hS)
    · rw [gv_set hil, if_pos rfl, e]
      split <;> omega
theorem lv_at (h : Rk W n r) {S : Nat → Nat → Prop} {v : List Int} (l : Lv W d n S v) {i : Nat} (hi : i < n) (hS : ∀ j, j < n → i ∈ W j → S j i) : gv v i = lL W d n i := by
  have a := l.lo i hi
  rcases lp_or (d := d) (rk_rev h) hi with e | ⟨j, hj, e⟩
  · have b := l.hi i hi
    unfold lL at a ⊢
    omega
  · obtain ⟨c1, c2⟩ := wr_mem.mp hj
    have b := l.le j i hi (hS j c1 c2)
    unfold lL at a b ⊢
    omega
end
theorem at_step {ss : List St} {i : Nat} (h : i < ss.length) : atI (ss.map stepD) (i : Int) = some (.tuple [.int (df ss i), .tuple ((natI (Wf ss i)).map .int)]) := by
  rw [at_nat (by rw [List.length_map]; exact h), List.getElem_map]
  unfold df Wf
  rw [List.getD_eq_getElem?_getD, List.getElem?_eq_getElem h]
  rfl
theorem good_at {ss : List St} (g : GoodD ss) {i : Nat} (h : i < ss.length) : GoodS ss.length i (df ss i, Wf ss i) := by
  have := g.ok i (ss[i]) (List.getElem?_eq_getElem h)
  unfold df Wf
  rw [List.getD_eq_getElem?_getD, List.getElem?_eq_getElem h]
  exact this
def ordL (ss : List St) : List Nat := ordF (Wf ss) ss.length ss.length []
def C_raw_order : Ct := fun rs Q _ => ∃ ss, rs = [.d (dsD ss)] ∧ GoodD ss ∧ Q (.fr ((natI (ordL ss)).map .int))
theorem l_raw_order : ∀ rs Q X, C_raw_order rs Q X → rs.length = 1 := by
  rintro rs Q X ⟨_, rfl, _⟩
  rfl
theorem p_raw_order : ∀ rs Q X, C_raw_order rs Q X → w_raw_order ⟨fun _ => Q (.d .none), Q, fun _ => False, fun _ => False⟩ (startR N_raw_order rs) X := by
  rintro rs Q X ⟨ss, rfl, g, h⟩
  have hz := sizeLine_eq
  have n10 := g.n10
  (try simp only [wIzM, wWordV, wDc, wDn, wDGet, wDIn, wDNotIn, wDPut, wRetK, wFrzK, keyOf, R.dk.injEq, R.fk.injEq, wRev, neS, wSortLL, wSetIfO, ltDD, sortedDI, wIe, isDD, isnotDD, wPar2, sumDD, eqS, reprD, wV, wC, wNil, wCons, wTup, wLst, wOp, wUn, wCall, wT, wNot, wAnd, wOr, wB, wAndV, wOrV, wNotV, wIf, wIsi, wChain, wNo, wPart, wSl, wSet, wSetO, wTg, wPnil, wPcons, wPar, wNext, wSeq, wRet, wRetO, wRetN, wIfS, wBrk, wCnt, wDrop, wFrz, wApp, wExt, wSetIx, wAugIx, wAug, wRnil, wRcons, wFn, wRaise, wWord, wRetH, wSetIxH, wCount, wIndex, wIsE, wListRg1, wListRg2, wYes, wIs, wIz, wIl, wIt, wIr1, wIr2, wSlS, wPop, wAppPop, R.wk, R.st, R.ar, R.bl, R.no, R.sq, R.slot, setsR, startR, List.map_cons, List.map_nil, List.cons_append, List.nil_append, List.length_cons, List.length_nil, List.replicate, List.getElem?_cons_zero, List.getElem?_cons_succ, Option.some.injEq, exists_eq_left', exists_eq_left, R.d.injEq, R.own.injEq, R.fr.injEq, List.set_cons_zero, List.set_cons_succ, addD, subD, mulDD, fdivD, modD, ltD, leD, gtD, geD, eqD, neD, isND, isnotND, inDD, notInDD, ixD, negD, lenD, absD, intD, min2D, max2D, listD, tupleD, slD, Nat.reduceAdd, Nat.reduceSub, Nat.add_zero, Nat.zero_add, true_and, and_true, ite_true, ite_false, if_true, if_false, Bool.false_eq_true, reduceIte, Option.some_inj, Bool.true_eq_false, tgW, tgWs, wipe3, List.set_nil, w_raw_order, w_raw_order_1, wWhile])
  refine ⟨fun m ρ => ∃ (f : List Nat) (o2 o3 o4 : Option R), Topo (Wf ss) ss.length f ∧ ordF (Wf ss) ss.length m f = ordL ss ∧ m = ss.length - f.length ∧ ρ = [some (.d (dsD ss)), some (.own ((natI f).map .int)), o2, o3, o4], ⟨ss.length, [], none, none, none, topo_nil, rfl, by simp, rfl⟩, ?_⟩
  rintro m ρ ⟨f, o2, o3, o4, t, e, em, rfl⟩
  (try simp only [wIzM, wWordV, wDc, wDn, wDGet, wDIn, wDNotIn, wDPut, wRetK, wFrzK, keyOf, R.dk.injEq, R.fk.injEq, wRev, neS, wSortLL, wSetIfO, ltDD, sortedDI, wIe, isDD, isnotDD, wPar2, sumDD, eqS, reprD, wV, wC, wNil, wCons, wTup, wLst, wOp, wUn, wCall, wT, wNot, wAnd, wOr, wB, wAndV, wOrV, wNotV, wIf, wIsi, wChain, wNo, wPart, wSl, wSet, wSetO, wTg, wPnil, wPcons, wPar, wNext, wSeq, wRet, wRetO, wRetN, wIfS, wBrk, wCnt, wDrop, wFrz, wApp, wExt, wSetIx, wAugIx, wAug, wRnil, wRcons, wFn, wRaise, wWord, wRetH, wSetIxH, wCount, wIndex, wIsE, wListRg1, wListRg2, wYes, wIs, wIz, wIl, wIt, wIr1, wIr2, wSlS, wPop, wAppPop, R.wk, R.st, R.ar, R.bl, R.no, R.sq, R.slot, setsR, startR, List.map_cons, List.map_nil, List.cons_append, List.nil_append, List.length_cons, List.length_nil, List.replicate, List.getElem?_cons_zero, List.getElem?_cons_succ, Option.some.injEq, exists_eq_left', exists_eq_left, R.d.injEq, R.own.injEq, R.fr.injEq, List.set_cons_zero, List.set_cons_succ, addD, subD, mulDD, fdivD, modD, ltD, leD, gtD, geD, eqD, neD, isND, isnotND, inDD, notInDD, ixD, negD, lenD, absD, intD, min2D, max2D, listD, tupleD, slD, Nat.reduceAdd, Nat.reduceSub, Nat.add_zero, Nat.zero_add, true_and, and_true, ite_true, ite_false, if_true, if_false, Bool.false_eq_true, reduceIte, Option.some_inj, Bool.true_eq_false, tgW, tgWs, wipe3, List.set_nil, b1_raw_order, wLc, List.length_map])
  refine ⟨by omega, ?_⟩
  rw [rg_map]
  refine lc_filtm (α := Nat) (fun i => .int (i : Int)) (fun i => .int (i : Int)) (fun a => !f.contains a && (Wf ss a).all fun w => f.contains w) _ (fun a b e => ?_) (fun a ha k hk => ?_) ?_
  · injection e with e
    have : a = b := by omega
    rw [this]
    exact ⟨rfl, rfl⟩
  · rw [List.mem_range] at ha
    (try simp only [wIzM, wWordV, wDc, wDn, wDGet, wDIn, wDNotIn, wDPut, wRetK, wFrzK, keyOf, R.dk.injEq, R.fk.injEq, wRev, neS, wSortLL, wSetIfO, ltDD, sortedDI, wIe, isDD, isnotDD, wPar2, sumDD, eqS, reprD, wV, wC, wNil, wCons, wTup, wLst, wOp, wUn, wCall, wT, wNot, wAnd, wOr, wB, wAndV, wOrV, wNotV, wIf, wIsi, wChain, wNo, wPart, wSl, wSet, wSetO, wTg, wPnil, wPcons, wPar, wNext, wSeq, wRet, wRetO, wRetN, wIfS, wBrk, wCnt, wDrop, wFrz, wApp, wExt, wSetIx, wAugIx, wAug, wRnil, wRcons, wFn, wRaise, wWord, wRetH, wSetIxH, wCount, wIndex, wIsE, wListRg1, wListRg2, wYes, wIs, wIz, wIl, wIt, wIr1, wIr2, wSlS, wPop, wAppPop, R.wk, R.st, R.ar, R.bl, R.no, R.sq, R.slot, setsR, startR, List.map_cons, List.map_nil, List.cons_append, List.nil_append, List.length_cons, List.length_nil, List.replicate, List.getElem?_cons_zero, List.getElem?_cons_succ, Option.some.injEq, exists_eq_left', exists_eq_left, R.d.injEq, R.own.injEq, R.fr.injEq, List.set_cons_zero, List.set_cons_succ, addD, subD, mulDD, fdivD, modD, ltD, leD, gtD, geD, eqD, neD, isND, isnotND, inDD, notInDD, ixD, negD, lenD, absD, intD, min2D, max2D, listD, tupleD, slD, Nat.reduceAdd, Nat.reduceSub, Nat.add_zero, Nat.zero_add, true_and, and_true, ite_true, ite_false, if_true, if_false, Bool.false_eq_true, reduceIte, Option.some_inj, Bool.true_eq_false, tgW, tgWs, wipe3, List.set_nil])
    refine ⟨rfl, (lay_lints _).sh, ?_⟩
    rw [any_nats, show decide (a ∈ f) = f.contains a from by rw [List.contains_eq_mem]]
    cases ca : f.contains a with
    | true =>
      rw [ca] at hk
      (try simp only [wIzM, wWordV, wDc, wDn, wDGet, wDIn, wDNotIn, wDPut, wRetK, wFrzK, keyOf, R.dk.injEq, R.fk.injEq, wRev, neS, wSortLL, wSetIfO, ltDD, sortedDI, wIe, isDD, isnotDD, wPar2, sumDD, eqS, reprD, wV, wC, wNil, wCons, wTup, wLst, wOp, wUn, wCall, wT, wNot, wAnd, wOr, wB, wAndV, wOrV, wNotV, wIf, wIsi, wChain, wNo, wPart, wSl, wSet, wSetO, wTg, wPnil, wPcons, wPar, wNext, wSeq, wRet, wRetO, wRetN, wIfS, wBrk, wCnt, wDrop, wFrz, wApp, wExt, wSetIx, wAugIx, wAug, wRnil, wRcons, wFn, wRaise, wWord, wRetH, wSetIxH, wCount, wIndex, wIsE, wListRg1, wListRg2, wYes, wIs, wIz, wIl, wIt, wIr1, wIr2, wSlS, wPop, wAppPop, R.wk, R.st, R.ar, R.bl, R.no, R.sq, R.slot, setsR, startR, List.map_cons, List.map_nil, List.cons_append, List.nil_append, List.length_cons, List.length_nil, List.replicate, List.getElem?_cons_zero, List.getElem?_cons_succ, Option.some.injEq, exists_eq_left', exists_eq_left, R.d.injEq, R.own.injEq, R.fr.injEq, List.set_cons_zero, List.set_cons_succ, addD, subD, mulDD, fdivD, modD, ltD, leD, gtD, geD, eqD, neD, isND, isnotND, inDD, notInDD, ixD, negD, lenD, absD, intD, min2D, max2D, listD, tupleD, slD, Nat.reduceAdd, Nat.reduceSub, Nat.add_zero, Nat.zero_add, true_and, and_true, ite_true, ite_false, if_true, if_false, Bool.false_eq_true, reduceIte, Option.some_inj, Bool.true_eq_false, tgW, tgWs, wipe3, List.set_nil])
      exact hk
    | false =>
      rw [ca] at hk
      (try simp only [wIzM, wWordV, wDc, wDn, wDGet, wDIn, wDNotIn, wDPut, wRetK, wFrzK, keyOf, R.dk.injEq, R.fk.injEq, wRev, neS, wSortLL, wSetIfO, ltDD, sortedDI, wIe, isDD, isnotDD, wPar2, sumDD, eqS, reprD, wV, wC, wNil, wCons, wTup, wLst, wOp, wUn, wCall, wT, wNot, wAnd, wOr, wB, wAndV, wOrV, wNotV, wIf, wIsi, wChain, wNo, wPart, wSl, wSet, wSetO, wTg, wPnil, wPcons, wPar, wNext, wSeq, wRet, wRetO, wRetN, wIfS, wBrk, wCnt, wDrop, wFrz, wApp, wExt, wSetIx, wAugIx, wAug, wRnil, wRcons, wFn, wRaise, wWord, wRetH, wSetIxH, wCount, wIndex, wIsE, wListRg1, wListRg2, wYes, wIs, wIz, wIl, wIt, wIr1, wIr2, wSlS, wPop, wAppPop, R.wk, R.st, R.ar, R.bl, R.no, R.sq, R.slot, setsR, startR, List.map_cons, List.map_nil, List.cons_append, List.nil_append, List.length_cons, List.length_nil, List.replicate, List.getElem?_cons_zero, List.getElem?_cons_succ, Option.some.injEq, exists_eq_left', exists_eq_left, R.d.injEq, R.own.injEq, R.fr.injEq, List.set_cons_zero, List.set_cons_succ, addD, subD, mulDD, fdivD, modD, ltD, leD, gtD, geD, eqD, neD, isND, isnotND, inDD, notInDD, ixD, negD, lenD, absD, intD, min2D, max2D, listD, tupleD, slD, Nat.reduceAdd, Nat.reduceSub, Nat.add_zero, Nat.zero_add, true_and, and_true, ite_true, ite_false, if_true, if_false, Bool.false_eq_true, reduceIte, Option.some_inj, Bool.true_eq_false, tgW, tgWs, wipe3, List.set_nil, Bool.not_false, at_step ha, at1, wLc])
      rw [nats_ints (Wf ss a)]
      refine lc_mapm (α := Nat) (fun i => .int (i : Int)) (fun i => .bool (f.contains i)) _ (fun a b e => ?_) (fun w hw k hk => ?_) ?_
      · injection e with e
        have : a = b := by omega
        rw [this]
      · (try simp only [wIzM, wWordV, wDc, wDn, wDGet, wDIn, wDNotIn, wDPut, wRetK, wFrzK, keyOf, R.dk.injEq, R.fk.injEq, wRev, neS, wSortLL, wSetIfO, ltDD, sortedDI, wIe, isDD, isnotDD, wPar2, sumDD, eqS, reprD, wV, wC, wNil, wCons, wTup, wLst, wOp, wUn, wCall, wT, wNot, wAnd, wOr, wB, wAndV, wOrV, wNotV, wIf, wIsi, wChain, wNo, wPart, wSl, wSet, wSetO, wTg, wPnil, wPcons, wPar, wNext, wSeq, wRet, wRetO, wRetN, wIfS, wBrk, wCnt, wDrop, wFrz, wApp, wExt, wSetIx, wAugIx, wAug, wRnil, wRcons, wFn, wRaise, wWord, wRetH, wSetIxH, wCount, wIndex, wIsE, wListRg1, wListRg2, wYes, wIs, wIz, wIl, wIt, wIr1, wIr2, wSlS, wPop, wAppPop, R.wk, R.st, R.ar, R.bl, R.no, R.sq, R.slot, setsR, startR, List.map_cons, List.map_nil, List.cons_append, List.nil_append, List.length_cons, List.length_nil, List.replicate, List.getElem?_cons_zero, List.getElem?_cons_succ, Option.some.injEq, exists_eq_left', exists_eq_left, R.d.injEq, R.own.injEq, R.fr.injEq, List.set_cons_zero, List.set_cons_succ, addD, subD, mulDD, fdivD, modD, ltD, leD, gtD, geD, eqD, neD, isND, isnotND, inDD, notInDD, ixD, negD, lenD, absD, intD, min2D, max2D, listD, tupleD, slD, Nat.reduceAdd, Nat.reduceSub, Nat.add_zero, Nat.zero_add, true_and, and_true, ite_true, ite_false, if_true, if_false, Bool.false_eq_true, reduceIte, Option.some_inj, Bool.true_eq_false, tgW, tgWs, wipe3, List.set_nil])
        refine ⟨rfl, (lay_lints _).sh, ?_⟩
        rw [any_nats, show decide (w ∈ f) = f.contains w from by rw [List.contains_eq_mem]]
        exact hk
      · (try simp only [wIzM, wWordV, wDc, wDn, wDGet, wDIn, wDNotIn, wDPut, wRetK, wFrzK, keyOf, R.dk.injEq, R.fk.injEq, wRev, neS, wSortLL, wSetIfO, ltDD, sortedDI, wIe, isDD, isnotDD, wPar2, sumDD, eqS, reprD, wV, wC, wNil, wCons, wTup, wLst, wOp, wUn, wCall, wT, wNot, wAnd, wOr, wB, wAndV, wOrV, wNotV, wIf, wIsi, wChain, wNo, wPart, wSl, wSet, wSetO, wTg, wPnil, wPcons, wPar, wNext, wSeq, wRet, wRetO, wRetN, wIfS, wBrk, wCnt, wDrop, wFrz, wApp, wExt, wSetIx, wAugIx, wAug, wRnil, wRcons, wFn, wRaise, wWord, wRetH, wSetIxH, wCount, wIndex, wIsE, wListRg1, wListRg2, wYes, wIs, wIz, wIl, wIt, wIr1, wIr2, wSlS, wPop, wAppPop, R.wk, R.st, R.ar, R.bl, R.no, R.sq, R.slot, setsR, startR, List.map_cons, List.map_nil, List.cons_append, List.nil_append, List.length_cons, List.length_nil, List.replicate, List.getElem?_cons_zero, List.getElem?_cons_succ, Option.some.injEq, exists_eq_left', exists_eq_left, R.d.injEq, R.own.injEq, R.fr.injEq, List.set_cons_zero, List.set_cons_succ, addD, subD, mulDD, fdivD, modD, ltD, leD, gtD, geD, eqD, neD, isND, isnotND, inDD, notInDD, ixD, negD, lenD, absD, intD, min2D, max2D, listD, tupleD, slD, Nat.reduceAdd, Nat.reduceSub, Nat.add_zero, Nat.zero_add, true_and, and_true, ite_true, ite_false, if_true, if_false, Bool.false_eq_true, reduceIte, Option.some_inj, Bool.true_eq_false, tgW, tgWs, wipe3, List.set_nil, allD])
        obtain ⟨bs, e1, e2⟩ := bools_all (fun w => f.contains w) (Wf ss a)
        refine ⟨bs, e1, ?_⟩
        rw [e2]
        cases cb : (Wf ss a).all fun w => f.contains w with
        | true =>
          rw [cb] at hk
          exact hk
        | false =>
          rw [cb] at hk
          exact hk
  have en : (List.range ss.length).filter (fun a => !f.contains a && (Wf ss a).all fun w => f.contains w) = nextL (Wf ss) ss.length f := rfl
  rw [en]
  (try simp only [wIzM, wWordV, wDc, wDn, wDGet, wDIn, wDNotIn, wDPut, wRetK, wFrzK, keyOf, R.dk.injEq, R.fk.injEq, wRev, neS, wSortLL, wSetIfO, ltDD, sortedDI, wIe, isDD, isnotDD, wPar2, sumDD, eqS, reprD, wV, wC, wNil, wCons, wTup, wLst, wOp, wUn, wCall, wT, wNot, wAnd, wOr, wB, wAndV, wOrV, wNotV, wIf, wIsi, wChain, wNo, wPart, wSl, wSet, wSetO, wTg, wPnil, wPcons, wPar, wNext, wSeq, wRet, wRetO, wRetN, wIfS, wBrk, wCnt, wDrop, wFrz, wApp, wExt, wSetIx, wAugIx, wAug, wRnil, wRcons, wFn, wRaise, wWord, wRetH, wSetIxH, wCount, wIndex, wIsE, wListRg1, wListRg2, wYes, wIs, wIz, wIl, wIt, wIr1, wIr2, wSlS, wPop, wAppPop, R.wk, R.st, R.ar, R.bl, R.no, R.sq, R.slot, setsR, startR, List.map_cons, List.map_nil, List.cons_append, List.nil_append, List.length_cons, List.length_nil, List.replicate, List.getElem?_cons_zero, List.getElem?_cons_succ, Option.some.injEq, exists_eq_left', exists_eq_left, R.d.injEq, R.own.injEq, R.fr.injEq, List.set_cons_zero, List.set_cons_succ, addD, subD, mulDD, fdivD, modD, ltD, leD, gtD, geD, eqD, neD, isND, isnotND, inDD, notInDD, ixD, negD, lenD, absD, intD, min2D, max2D, listD, tupleD, slD, Nat.reduceAdd, Nat.reduceSub, Nat.add_zero, Nat.zero_add, true_and, and_true, ite_true, ite_false, if_true, if_false, Bool.false_eq_true, reduceIte, Option.some_inj, Bool.true_eq_false, tgW, tgWs, wipe3, List.set_nil, b1_raw_order_1, sh_i, eqv_ii])
  cases hn : nextL (Wf ss) ss.length f with
  | nil =>
    (try simp only [wIzM, wWordV, wDc, wDn, wDGet, wDIn, wDNotIn, wDPut, wRetK, wFrzK, keyOf, R.dk.injEq, R.fk.injEq, wRev, neS, wSortLL, wSetIfO, ltDD, sortedDI, wIe, isDD, isnotDD, wPar2, sumDD, eqS, reprD, wV, wC, wNil, wCons, wTup, wLst, wOp, wUn, wCall, wT, wNot, wAnd, wOr, wB, wAndV, wOrV, wNotV, wIf, wIsi, wChain, wNo, wPart, wSl, wSet, wSetO, wTg, wPnil, wPcons, wPar, wNext, wSeq, wRet, wRetO, wRetN, wIfS, wBrk, wCnt, wDrop, wFrz, wApp, wExt, wSetIx, wAugIx, wAug, wRnil, wRcons, wFn, wRaise, wWord, wRetH, wSetIxH, wCount, wIndex, wIsE, wListRg1, wListRg2, wYes, wIs, wIz, wIl, wIt, wIr1, wIr2, wSlS, wPop, wAppPop, R.wk, R.st, R.ar, R.bl, R.no, R.sq, R.slot, setsR, startR, List.map_cons, List.map_nil, List.cons_append, List.nil_append, List.length_cons, List.length_nil, List.replicate, List.getElem?_cons_zero, List.getElem?_cons_succ, Option.some.injEq, exists_eq_left', exists_eq_left, R.d.injEq, R.own.injEq, R.fr.injEq, List.set_cons_zero, List.set_cons_succ, addD, subD, mulDD, fdivD, modD, ltD, leD, gtD, geD, eqD, neD, isND, isnotND, inDD, notInDD, ixD, negD, lenD, absD, intD, min2D, max2D, listD, tupleD, slD, Nat.reduceAdd, Nat.reduceSub, Nat.add_zero, Nat.zero_add, true_and, and_true, ite_true, ite_false, if_true, if_false, Bool.false_eq_true, reduceIte, Option.some_inj, Bool.true_eq_false, tgW, tgWs, wipe3, List.set_nil])
    have : ordL ss = f := by
      rw [← e]
      cases m with
      | zero => rfl
      | succ m => rw [ordF, hn]
    rw [this] at h
    exact h
  | cons a r =>
    have hmem : a ∈ nextL (Wf ss) ss.length f := by rw [hn]; exact List.mem_cons_self
    have t' := topo_snoc t hmem
    have hl := topo_le t'
    rw [List.length_append, List.length_singleton] at hl
    have c0 : decide (((List.map (fun (i : Nat) => PyData.int (i : Int)) (a :: r)).length : Int) = 0) = false := decide_eq_false (by simp; omega)
    (try simp only [wIzM, wWordV, wDc, wDn, wDGet, wDIn, wDNotIn, wDPut, wRetK, wFrzK, keyOf, R.dk.injEq, R.fk.injEq, wRev, neS, wSortLL, wSetIfO, ltDD, sortedDI, wIe, isDD, isnotDD, wPar2, sumDD, eqS, reprD, wV, wC, wNil, wCons, wTup, wLst, wOp, wUn, wCall, wT, wNot, wAnd, wOr, wB, wAndV, wOrV, wNotV, wIf, wIsi, wChain, wNo, wPart, wSl, wSet, wSetO, wTg, wPnil, wPcons, wPar, wNext, wSeq, wRet, wRetO, wRetN, wIfS, wBrk, wCnt, wDrop, wFrz, wApp, wExt, wSetIx, wAugIx, wAug, wRnil, wRcons, wFn, wRaise, wWord, wRetH, wSetIxH, wCount, wIndex, wIsE, wListRg1, wListRg2, wYes, wIs, wIz, wIl, wIt, wIr1, wIr2, wSlS, wPop, wAppPop, R.wk, R.st, R.ar, R.bl, R.no, R.sq, R.slot, setsR, startR, List.map_cons, List.map_nil, List.cons_append, List.nil_append, List.length_cons, List.length_nil, List.replicate, List.getElem?_cons_zero, List.getElem?_cons_succ, Option.some.injEq, exists_eq_left', exists_eq_left, R.d.injEq, R.own.injEq, R.fr.injEq, List.set_cons_zero, List.set_cons_succ, addD, subD, mulDD, fdivD, modD, ltD, leD, gtD, geD, eqD, neD, isND, isnotND, inDD, notInDD, ixD, negD, lenD, absD, intD, min2D, max2D, listD, tupleD, slD, Nat.reduceAdd, Nat.reduceSub, Nat.add_zero, Nat.zero_add, true_and, and_true, ite_true, ite_false, if_true, if_false, Bool.false_eq_true, reduceIte, Option.some_inj, Bool.true_eq_false, tgW, tgWs, wipe3, List.set_nil, c0, b1_raw_order_2, List.map_cons, at0])
    have ea : (natI f).map PyData.int ++ [.int (a : Int)] = (natI (f ++ [a])).map .int := by
      simp [natI]
    rw [ea]
    refine ⟨by simp; omega, m - 1, by omega, f ++ [a], _, _, _, t', ?_, ?_, rfl⟩
    · rw [← e]
      obtain ⟨m', rfl⟩ : ∃ m', m = m' + 1 := ⟨m - 1, by omega⟩
      rw [ordF, hn]
      rfl
    · rw [List.length_append, List.length_singleton]
      omega
theorem ok_raw_order (D : Txt K mg base T) : Cal false P w K mg base T 1 "raw_order" C_raw_order :=
  cal_of (wb := w_raw_order) D.d_raw_order sc_raw_order bi_raw_order l_raw_order (fun f cdv A outer s H E hp hr hgd => ess_cons (es_setO (i := 1) sc_raw_order.nd rfl (by first | exact Or.inl rfl | exact Or.inr rfl) (ev_lst (el_nil))) (ess_one (es_while own_cx (et_val (ev_bl)) (ess_cons (es_setLc (i := 2) (own := [("at", 3)]) (g := .one 3) rfl sc_raw_order.nd rfl rfl (sw_true rfl rfl rfl (by decide +kernel)) (ei_rg1 rfl D.n_range (ev_callB cr_len rfl D.n_len bb_len (el_cons selW (ev_var (pv 0)) (el_nil)))) (blkOk_by (N := N_raw_order) (sc := defScope s_raw_order) (by decide +kernel)) (by decide) (fun _ _ _ _ _ => pg_name (i := 3) sc_raw_order.nd rfl (by first | exact Or.inl rfl | exact Or.inr rfl)) (fun _ _ _ _ _ => pts_one (PW.pt (ew_and (et_cmp (op_notInDD (u65 hr)) (ev_var (pv 3)) (ev_var (pv 1)) (by rfl)) (ew_and1 (et_val (ev_callB (cr_allD rfl) rfl D.n_all bb_all (el_cons selW (ev_lc (own := [("one", 4)]) (g := .one 4) rfl sc_raw_order.nd (ei_seq (ev_ix ix_D (ev_ix ix_D (ev_var (pv 0)) (ev_var (pv 3)) (fun _ _ => rfl)) (ev_int) (fun _ _ => rfl))) (blkOk_by (by kernel_rfl)) (by decide) (fun _ _ _ _ _ => pg_name (i := 4) sc_raw_order.nd rfl (Or.inl rfl)) (fun _ _ _ _ _ => eb_yes) (fun _ _ _ _ _ => ev_cmp (op_inDD (u65 hr)) (ev_var (pv 4)) (ev_var (pv 1)) (by rfl))) (el_nil)))))))) (fun _ _ _ _ _ => ev_var (pv 3))) (ess_cons (es_if (et_cmp (op_eqT (u64 hr)) (ev_callB cr_len rfl D.n_len bb_len (el_cons selW (ev_var (pv 2)) (el_nil))) (ev_int) (nomark _)) (ess_one (es_retO (pv 1))) (ess_nil)) (ess_one (es_app (pv 1) (ev_ix ix_D (ev_var (pv 2)) (ev_int) (fun _ _ => rfl))))))))) p_raw_order
/-! ### check_ordered -/
abbrev N_check_ordered : List Str := ["dish"]
theorem sc_check_ordered : FnScope N_check_ordered ["dish"] (defScope s_check_ordered) := ⟨rfl, rfl, rfl, by decide +kernel, rfl, by decide +kernel, by decide +kernel⟩
theorem bi_check_ordered : BindsBy "check_ordered" s_check_ordered ["dish"] := fun _ _ _ _ _ _ us hl => match us, hl with | [_], _ => rfl
def w_check_ordered_1 : WS := wIfS (wT (wOp ltDD (wCall lenD (wCons R.wk (wFn C_raw_order (wRcons (wV 0) (wRnil))) (wNil))) (wCall lenD (wCons R.wk (wV 0) (wNil))))) (wRaise "NoOrder") (wNext)
def w_check_ordered : WS := wSeq (wDrop (wFn C_check_dish (wRcons (wV 0) (wRnil)))) (w_check_ordered_1)
-- splitall
def C_check_ordered : Ct := fun rs Q X => ∃ x, rs = [.d x] ∧ (okDish x = false → X ⟨"NoDish", none⟩) ∧ ∀ ss, x = dsD ss → GoodD ss → ((ordL ss).length ≠ ss.length → X ⟨"NoOrder", none⟩) ∧ ((ordL ss).length = ss.length → Q (.d .none))
theorem l_check_ordered : ∀ rs Q X, C_check_ordered rs Q X → rs.length = 1 := by
  rintro rs Q X ⟨_, rfl, _⟩
  rfl
theorem ordL_topo (ss : List St) : Topo (Wf ss) ss.length (ordL ss) := (ord_inv _ [] topo_nil).1
theorem ordL_le (ss : List St) : (ordL ss).length ≤ ss.length := topo_le (ordL_topo ss)
theorem p_check_ordered : ∀ rs Q X, C_check_ordered rs Q X → w_check_ordered ⟨fun _ => Q (.d .none), Q, fun _ => False, fun _ => False⟩ (startR N_check_ordered rs) X := by
  rintro rs Q X ⟨x, rfl, h1, h2⟩
  (try simp only [wIzM, wWordV, wDc, wDn, wDGet, wDIn, wDNotIn, wDPut, wRetK, wFrzK, keyOf, R.dk.injEq, R.fk.injEq, wRev, neS, wSortLL, wSetIfO, ltDD, sortedDI, wIe, isDD, isnotDD, wPar2, sumDD, eqS, reprD, wV, wC, wNil, wCons, wTup, wLst, wOp, wUn, wCall, wT, wNot, wAnd, wOr, wB, wAndV, wOrV, wNotV, wIf, wIsi, wChain, wNo, wPart, wSl, wSet, wSetO, wTg, wPnil, wPcons, wPar, wNext, wSeq, wRet, wRetO, wRetN, wIfS, wBrk, wCnt, wDrop, wFrz, wApp, wExt, wSetIx, wAugIx, wAug, wRnil, wRcons, wFn, wRaise, wWord, wRetH, wSetIxH, wCount, wIndex, wIsE, wListRg1, wListRg2, wYes, wIs, wIz, wIl, wIt, wIr1, wIr2, wSlS, wPop, wAppPop, R.wk, R.st, R.ar, R.bl, R.no, R.sq, R.slot, setsR, startR, List.map_cons, List.map_nil, List.cons_append, List.nil_append, List.length_cons, List.length_nil, List.replicate, List.getElem?_cons_zero, List.getElem?_cons_succ, Option.some.injEq, exists_eq_left', exists_eq_left, R.d.injEq, R.own.injEq, R.fr.injEq, List.set_cons_zero, List.set_cons_succ, addD, subD, mulDD, fdivD, modD, ltD, leD, gtD, geD, eqD, neD, isND, isnotND, inDD, notInDD, ixD, negD, lenD, absD, intD, min2D, max2D, listD, tupleD, slD, Nat.reduceAdd, Nat.reduceSub, Nat.add_zero, Nat.zero_add, true_and, and_true, ite_true, ite_false, if_true, if_false, Bool.false_eq_true, reduceIte, Option.some_inj, Bool.true_eq_false, tgW, tgWs, wipe3, List.set_nil, w_check_ordered, C_check_dish])
  refine ⟨x, rfl, h1, fun hx => ?_⟩
  obtain ⟨ss, rfl, g⟩ := dish_of hx
  obtain ⟨k1, k2⟩ := h2 ss rfl g
  (try simp only [wIzM, wWordV, wDc, wDn, wDGet, wDIn, wDNotIn, wDPut, wRetK, wFrzK, keyOf, R.dk.injEq, R.fk.injEq, wRev, neS, wSortLL, wSetIfO, ltDD, sortedDI, wIe, isDD, isnotDD, wPar2, sumDD, eqS, reprD, wV, wC, wNil, wCons, wTup, wLst, wOp, wUn, wCall, wT, wNot, wAnd, wOr, wB, wAndV, wOrV, wNotV, wIf, wIsi, wChain, wNo, wPart, wSl, wSet, wSetO, wTg, wPnil, wPcons, wPar, wNext, wSeq, wRet, wRetO, wRetN, wIfS, wBrk, wCnt, wDrop, wFrz, wApp, wExt, wSetIx, wAugIx, wAug, wRnil, wRcons, wFn, wRaise, wWord, wRetH, wSetIxH, wCount, wIndex, wIsE, wListRg1, wListRg2, wYes, wIs, wIz, wIl, wIt, wIr1, wIr2, wSlS, wPop, wAppPop, R.wk, R.st, R.ar, R.bl, R.no, R.sq, R.slot, setsR, startR, List.map_cons, List.map_nil, List.cons_append, List.nil_append, List.length_cons, List.length_nil, List.replicate, List.getElem?_cons_zero, List.getElem?_cons_succ, Option.some.injEq, exists_eq_left', exists_eq_left, R.d.injEq, R.own.injEq, R.fr.injEq, List.set_cons_zero, List.set_cons_succ, addD, subD, mulDD, fdivD, modD, ltD, leD, gtD, geD, eqD, neD, isND, isnotND, inDD, notInDD, ixD, negD, lenD, absD, intD, min2D, max2D, listD, tupleD, slD, Nat.reduceAdd, Nat.reduceSub, Nat.add_zero, Nat.zero_add, true_and, and_true, ite_true, ite_false, if_true, if_false, Bool.false_eq_true, reduceIte, Option.some_inj, Bool.true_eq_false, tgW, tgWs, wipe3, List.set_nil, w_check_ordered_1, C_raw_order])
  refine ⟨ss, rfl, g, ?_⟩
  (try simp only [wIzM, wWordV, wDc, wDn, wDGet, wDIn, wDNotIn, wDPut, wRetK, wFrzK, keyOf, R.dk.injEq, R.fk.injEq, wRev, neS, wSortLL, wSetIfO, ltDD, sortedDI, wIe, isDD, isnotDD, wPar2, sumDD, eqS, reprD, wV, wC, wNil, wCons, wTup, wLst, wOp, wUn, wCall, wT, wNot, wAnd, wOr, wB, wAndV, wOrV, wNotV, wIf, wIsi, wChain, wNo, wPart, wSl, wSet, wSetO, wTg, wPnil, wPcons, wPar, wNext, wSeq, wRet, wRetO, wRetN, wIfS, wBrk, wCnt, wDrop, wFrz, wApp, wExt, wSetIx, wAugIx, wAug, wRnil, wRcons, wFn, wRaise, wWord, wRetH, wSetIxH, wCount, wIndex, wIsE, wListRg1, wListRg2, wYes, wIs, wIz, wIl, wIt, wIr1, wIr2, wSlS, wPop, wAppPop, R.wk, R.st, R.ar, R.bl, R.no, R.sq, R.slot, setsR, startR, List.map_cons, List.map_nil, List.cons_append, List.nil_append, List.length_cons, List.length_nil, List.replicate, List.getElem?_cons_zero, List.getElem?_cons_succ, Option.some.injEq, exists_eq_left', exists_eq_left, R.d.injEq, R.own.injEq, R.fr.injEq, List.set_cons_zero, List.set_cons_succ, addD, subD, mulDD, fdivD, modD, ltD, leD, gtD, geD, eqD, neD, isND, isnotND, inDD, notInDD, ixD, negD, lenD, absD, intD, min2D, max2D, listD, tupleD, slD, Nat.reduceAdd, Nat.reduceSub, Nat.add_zero, Nat.zero_add, true_and, and_true, ite_true, ite_false, if_true, if_false, Bool.false_eq_true, reduceIte, Option.some_inj, Bool.true_eq_false, tgW, tgWs, wipe3, List.set_nil, List.length_map])
  have := ordL_le ss
  by_cases c : ((ordL ss).length : Int) < ss.length
  · rw [decide_eq_true c]
    exact k1 (by omega)
  · rw [decide_eq_false c]
    exact k2 (by omega)
theorem ok_check_ordered (D : Txt K mg base T) : Cal false P w K mg base T 7 "check_ordered" C_check_ordered :=
  cal_of (wb := w_check_ordered) D.d_check_ordered sc_check_ordered bi_check_ordered l_check_ordered (fun f cdv A outer s H E hp hr hgd => ess_cons (es_drop (ev_fnC (ok_check_dish D) hr (by decide) (fun h => by cases h) rfl pass_cx (er_cons (ev_var (pv 0)) (er_nil)))) (ess_one (es_if (et_cmp (op_ltDD (u64 hr)) (ev_callB cr_len rfl D.n_len bb_len (el_cons selW (ev_fnC (ok_raw_order D) hr (by decide) (fun h => by cases h) rfl pass_cx (er_cons (ev_var (pv 0)) (er_nil))) (el_nil))) (ev_callB cr_len rfl D.n_len bb_len (el_cons selW (ev_var (pv 0)) (el_nil))) (nomark _)) (ess_one (es_raiseE rfl (takes_of rfl rfl rfl rfl) D.x_NoOrder rfl)) (ess_nil)))) p_check_ordered
/-! ### raw_begins -/
abbrev N_raw_begins : List Str := ["dish", "found", "step", "one"]
theorem sc_raw_begins : FnScope N_raw_begins ["dish"] (defScope s_raw_begins) := ⟨rfl, rfl, rfl, by decide +kernel, rfl, by decide +kernel, by decide +kernel⟩
theorem bi_raw_begins : BindsBy "raw_begins" s_raw_begins ["dish"] := fun _ _ _ _ _ _ us hl => match us, hl with | [_], _ => rfl
def b1_raw_begins : WS := wSetIx 1 (wV 2) (wCall maxD (wCons R.wk (wOp addD (wLst (wCons R.st (wC (.int 0)) (wNil))) (wLc (wIs (wOp ixD (wOp ixD (wV 0) (wV 2)) (wC (.int 1)))) (.one 3) wYes (wOp addD (wOp ixD (wV 1) (wV 3)) (wOp ixD (wOp ixD (wV 0) (wV 3)) (wC (.int 0)))) [3])) (wNil)))
def w_raw_begins_2 : WS := wRetO 1
def w_raw_begins_1 : WS := wSeq (wFor (wIs (wFn C_raw_order (wRcons (wV 0) (wRnil)))) (.one 2) (b1_raw_begins)) (w_raw_begins_2)
def w_raw_begins : WS := wSeq (wSetO 1 (wOp mulDD (wLst (wCons R.st (wC (.int 0)) (wNil))) (wCall lenD (wCons R.wk (wV 0) (wNil))))) (w_raw_begins_1)
-- splitall
def bL (ss : List St) : List Int := (List.range ss.length).map (lp (Wf ss) (df ss) ss.length)
def C_raw_begins : Ct := fun rs Q _ => ∃ ss, rs = [.d (dsD ss)] ∧ GoodD ss ∧ (ordL ss).length = ss.length ∧ Q (.fr ((bL ss).map .int))
theorem l_raw_begins : ∀ rs Q X, C_raw_begins rs Q X → rs.length = 1 := by
  rintro rs Q X ⟨_, rfl, _⟩
  rfl
theorem ord_rk {ss : List St} (h : (ordL ss).length = ss.length) : Rk (Wf ss) ss.length fun i => (ordL ss).idxOf i := topo_rk (ordL_topo ss) h
theorem at_gv {v : List Int} {i : Nat} (h : i < v.length) : atI (v.map PyData.int) (i : Int) = some (.int (gv v i)) := at_map h
theorem ix_of {α : Type} {xs : List α} {i : Nat} (h : i < xs.length) : ixN xs.length (i : Int) = some i := by
  unfold ixN
  rw [if_pos (by omega), if_pos (by omega), Int.toNat_natCast]
theorem mx_of {l : List Int} {m : Int} (h0 : ∀ y ∈ l, 0 ≤ y) (h1 : m ∈ l) (h2 : ∀ y ∈ l, y ≤ m) : m = mx l := mx_is (List.mem_cons_of_mem _ h1) fun y hy => by
  rcases List.mem_cons.mp hy with rfl | hy
  · exact h0 m h1
  · exact h2 y hy
theorem rise_nd {ws : List Nat} (h : risesB ((natI ws).map .int) = true) : ws.Nodup := by
  have key : ∀ (ws : List Nat) (w : Nat), risesB ((natI (w :: ws)).map .int) = true → (∀ x ∈ ws, w < x) ∧ ws.Nodup := by
    intro ws
    induction ws with
    | nil => exact fun w _ => ⟨fun _ h => (by cases h), List.nodup_nil⟩
    | cons x ws ih =>
      intro w h
      have h' : (decide ((w : Int) < x) && risesB ((natI (x :: ws)).map .int)) = true := h
      rw [Bool.and_eq_true, decide_eq_true_eq] at h'
      obtain ⟨h1, h2⟩ := h'
      obtain ⟨i1, i2⟩ := ih x h2
      refine ⟨fun y hy => ?_, List.nodup_cons.mpr ⟨fun c => ?_, i2⟩⟩
      · rcases List.mem_cons.mp hy with rfl | hy
        · omega
        · have := i1 y hy
          omega
      · have := i1 x c
        omega
  cases ws with
  | nil => exact List.nodup_nil
  | cons w ws =>
    obtain ⟨a, b⟩ := key ws w h
    exact List.nodup_cons.mpr ⟨fun c => (Nat.lt_irrefl _ (a w c)), b⟩
theorem max0 {l : List Nat} {F : Nat → Int} {k : R → Prop} (h : k (.d (.int (mx (l.map F))))) : maxD [.list (PyData.int 0 :: l.map fun w => .int (F w))] k := by
  have e : PyData.int 0 :: (l.map fun w => PyData.int (F w)) = (0 :: l.map F).map .int := by
    rw [List.map_cons, List.map_map]
    rfl
  rw [e]
  refine best_is (by simp) fun m h1 h2 => ?_
  rw [mx_is h1 h2]
  exact h
theorem p_raw_begins : ∀ rs Q X, C_raw_begins rs Q X → w_raw_begins ⟨fun _ => Q (.d .none), Q, fun _ => False, fun _ => False⟩ (startR N_raw_begins rs) X := by
  rintro rs Q X ⟨ss, rfl, g, ho, h⟩
  have hz := sizeLine_eq
  have n10 := g.n10
  have hr := ord_rk ho
  have ht := ordL_topo ss
  (try simp only [wIzM, wWordV, wDc, wDn, wDGet, wDIn, wDNotIn, wDPut, wRetK, wFrzK, keyOf, R.dk.injEq, R.fk.injEq, wRev, neS, wSortLL, wSetIfO, ltDD, sortedDI, wIe, isDD, isnotDD, wPar2, sumDD, eqS, reprD, wV, wC, wNil, wCons, wTup, wLst, wOp, wUn, wCall, wT, wNot, wAnd, wOr, wB, wAndV, wOrV, wNotV, wIf, wIsi, wChain, wNo, wPart, wSl, wSet, wSetO, wTg, wPnil, wPcons, wPar, wNext, wSeq, wRet, wRetO, wRetN, wIfS, wBrk, wCnt, wDrop, wFrz, wApp, wExt, wSetIx, wAugIx, wAug, wRnil, wRcons, wFn, wRaise, wWord, wRetH, wSetIxH, wCount, wIndex, wIsE, wListRg1, wListRg2, wYes, wIs, wIz, wIl, wIt, wIr1, wIr2, wSlS, wPop, wAppPop, R.wk, R.st, R.ar, R.bl, R.no, R.sq, R.slot, setsR, startR, List.map_cons, List.map_nil, List.cons_append, List.nil_append, List.length_cons, List.length_nil, List.replicate, List.getElem?_cons_zero, List.getElem?_cons_succ, Option.some.injEq, exists_eq_left', exists_eq_left, R.d.injEq, R.own.injEq, R.fr.injEq, List.set_cons_zero, List.set_cons_succ, addD, subD, mulDD, fdivD, modD, ltD, leD, gtD, geD, eqD, neD, isND, isnotND, inDD, notInDD, ixD, negD, lenD, absD, intD, min2D, max2D, listD, tupleD, slD, Nat.reduceAdd, Nat.reduceSub, Nat.add_zero, Nat.zero_add, true_and, and_true, ite_true, ite_false, if_true, if_false, Bool.false_eq_true, reduceIte, Option.some_inj, Bool.true_eq_false, tgW, tgWs, wipe3, List.set_nil, w_raw_begins, w_raw_begins_1, wFor, C_raw_order, List.length_map])
  refine ⟨⟨by omega, by omega, by omega⟩, ss, rfl, g, ?_⟩
  have e0 : (List.replicate ((ss.length : Int)).toNat [PyData.int 0]).flatten = (List.replicate ss.length (0 : Int)).map .int := by
    rw [Int.toNat_natCast, rep_flat, List.map_replicate]
  rw [e0]
  refine for_rule (fun rest ρ => ∃ (dn todo : List Nat) (v : List Int) (o2 o3 : Option R), ordL ss = dn ++ todo ∧ rest = (natI todo).map .int ∧ Bv (Wf ss) (df ss) ss.length (· ∈ dn) v ∧ ρ = [some (.d (dsD ss)), some (.own (v.map .int)), o2, o3]) _ _ ⟨[], ordL ss, _, none, none, rfl, rfl, ⟨by simp, fun _ _ h => (by cases h)⟩, rfl⟩ ?_ ?_
  · rintro ρ ⟨dn, todo, v, o2, o3, f1, f2, b, rfl⟩
    cases todo with
    | cons a r => cases f2
    | nil =>
    rw [List.append_nil] at f1
    (try simp only [wIzM, wWordV, wDc, wDn, wDGet, wDIn, wDNotIn, wDPut, wRetK, wFrzK, keyOf, R.dk.injEq, R.fk.injEq, wRev, neS, wSortLL, wSetIfO, ltDD, sortedDI, wIe, isDD, isnotDD, wPar2, sumDD, eqS, reprD, wV, wC, wNil, wCons, wTup, wLst, wOp, wUn, wCall, wT, wNot, wAnd, wOr, wB, wAndV, wOrV, wNotV, wIf, wIsi, wChain, wNo, wPart, wSl, wSet, wSetO, wTg, wPnil, wPcons, wPar, wNext, wSeq, wRet, wRetO, wRetN, wIfS, wBrk, wCnt, wDrop, wFrz, wApp, wExt, wSetIx, wAugIx, wAug, wRnil, wRcons, wFn, wRaise, wWord, wRetH, wSetIxH, wCount, wIndex, wIsE, wListRg1, wListRg2, wYes, wIs, wIz, wIl, wIt, wIr1, wIr2, wSlS, wPop, wAppPop, R.wk, R.st, R.ar, R.bl, R.no, R.sq, R.slot, setsR, startR, List.map_cons, List.map_nil, List.cons_append, List.nil_append, List.length_cons, List.length_nil, List.replicate, List.getElem?_cons_zero, List.getElem?_cons_succ, Option.some.injEq, exists_eq_left', exists_eq_left, R.d.injEq, R.own.injEq, R.fr.injEq, List.set_cons_zero, List.set_cons_succ, addD, subD, mulDD, fdivD, modD, ltD, leD, gtD, geD, eqD, neD, isND, isnotND, inDD, notInDD, ixD, negD, lenD, absD, intD, min2D, max2D, listD, tupleD, slD, Nat.reduceAdd, Nat.reduceSub, Nat.add_zero, Nat.zero_add, true_and, and_true, ite_true, ite_false, if_true, if_false, Bool.false_eq_true, reduceIte, Option.some_inj, Bool.true_eq_false, tgW, tgWs, wipe3, List.set_nil, w_raw_begins_2])
    have all := topo_all ht (by omega)
    have : v = bL ss := vals_eq b.len fun i hi => b.ok i hi (by rw [← f1]; exact all i hi)
    rw [this]
    exact h
  · rintro y rest ρ ⟨dn, todo, v, o2, o3, f1, f2, b, rfl⟩ N hN
    cases todo with
    | nil => cases f2
    | cons s todo =>
    injection f2 with f2 f3
    subst f2
    have hs : s < ss.length := ht.lt s (by rw [f1]; simp)
    have hw : ∀ w ∈ Wf ss s, w < ss.length ∧ w ∈ dn := fun w hw => ⟨(hr.dn s hs w hw).1, ht.top dn s todo f1 w hw⟩
    have hlen : (Wf ss s).length < 100 := by
      have := nd_len (f := Wf ss s) (g := List.range ss.length) (rise_nd (good_at g hs).rise) fun w h => List.mem_range.mpr (hw w h).1
      rw [List.length_range] at this
      omega
    (try simp only [wIzM, wWordV, wDc, wDn, wDGet, wDIn, wDNotIn, wDPut, wRetK, wFrzK, keyOf, R.dk.injEq, R.fk.injEq, wRev, neS, wSortLL, wSetIfO, ltDD, sortedDI, wIe, isDD, isnotDD, wPar2, sumDD, eqS, reprD, wV, wC, wNil, wCons, wTup, wLst, wOp, wUn, wCall, wT, wNot, wAnd, wOr, wB, wAndV, wOrV, wNotV, wIf, wIsi, wChain, wNo, wPart, wSl, wSet, wSetO, wTg, wPnil, wPcons, wPar, wNext, wSeq, wRet, wRetO, wRetN, wIfS, wBrk, wCnt, wDrop, wFrz, wApp, wExt, wSetIx, wAugIx, wAug, wRnil, wRcons, wFn, wRaise, wWord, wRetH, wSetIxH, wCount, wIndex, wIsE, wListRg1, wListRg2, wYes, wIs, wIz, wIl, wIt, wIr1, wIr2, wSlS, wPop, wAppPop, R.wk, R.st, R.ar, R.bl, R.no, R.sq, R.slot, setsR, startR, List.map_cons, List.map_nil, List.cons_append, List.nil_append, List.length_cons, List.length_nil, List.replicate, List.getElem?_cons_zero, List.getElem?_cons_succ, Option.some.injEq, exists_eq_left', exists_eq_left, R.d.injEq, R.own.injEq, R.fr.injEq, List.set_cons_zero, List.set_cons_succ, addD, subD, mulDD, fdivD, modD, ltD, leD, gtD, geD, eqD, neD, isND, isnotND, inDD, notInDD, ixD, negD, lenD, absD, intD, min2D, max2D, listD, tupleD, slD, Nat.reduceAdd, Nat.reduceSub, Nat.add_zero, Nat.zero_add, true_and, and_true, ite_true, ite_false, if_true, if_false, Bool.false_eq_true, reduceIte, Option.some_inj, Bool.true_eq_false, tgW, tgWs, wipe3, List.set_nil, b1_raw_begins, at_step hs, at1, wLc])
    rw [nats_ints (Wf ss s)]
    refine lc_mapm (α := Nat) (fun i => .int (i : Int)) (fun w => .int (gv v w + df ss w)) _ (fun a b e => ?_) (fun w hw' k hk => ?_) ?_
    · injection e with e
      have : a = b := by omega
      rw [this]
    · have h1 := (hw w hw').1
      have hv : w < v.length := by rw [b.len]; exact h1
      (try simp only [wIzM, wWordV, wDc, wDn, wDGet, wDIn, wDNotIn, wDPut, wRetK, wFrzK, keyOf, R.dk.injEq, R.fk.injEq, wRev, neS, wSortLL, wSetIfO, ltDD, sortedDI, wIe, isDD, isnotDD, wPar2, sumDD, eqS, reprD, wV, wC, wNil, wCons, wTup, wLst, wOp, wUn, wCall, wT, wNot, wAnd, wOr, wB, wAndV, wOrV, wNotV, wIf, wIsi, wChain, wNo, wPart, wSl, wSet, wSetO, wTg, wPnil, wPcons, wPar, wNext, wSeq, wRet, wRetO, wRetN, wIfS, wBrk, wCnt, wDrop, wFrz, wApp, wExt, wSetIx, wAugIx, wAug, wRnil, wRcons, wFn, wRaise, wWord, wRetH, wSetIxH, wCount, wIndex, wIsE, wListRg1, wListRg2, wYes, wIs, wIz, wIl, wIt, wIr1, wIr2, wSlS, wPop, wAppPop, R.wk, R.st, R.ar, R.bl, R.no, R.sq, R.slot, setsR, startR, List.map_cons, List.map_nil, List.cons_append, List.nil_append, List.length_cons, List.length_nil, List.replicate, List.getElem?_cons_zero, List.getElem?_cons_succ, Option.some.injEq, exists_eq_left', exists_eq_left, R.d.injEq, R.own.injEq, R.fr.injEq, List.set_cons_zero, List.set_cons_succ, addD, subD, mulDD, fdivD, modD, ltD, leD, gtD, geD, eqD, neD, isND, isnotND, inDD, notInDD, ixD, negD, lenD, absD, intD, min2D, max2D, listD, tupleD, slD, Nat.reduceAdd, Nat.reduceSub, Nat.add_zero, Nat.zero_add, true_and, and_true, ite_true, ite_false, if_true, if_false, Bool.false_eq_true, reduceIte, Option.some_inj, Bool.true_eq_false, tgW, tgWs, wipe3, List.set_nil, at_gv hv, at_step h1, at0])
      exact hk
    · (try simp only [wIzM, wWordV, wDc, wDn, wDGet, wDIn, wDNotIn, wDPut, wRetK, wFrzK, keyOf, R.dk.injEq, R.fk.injEq, wRev, neS, wSortLL, wSetIfO, ltDD, sortedDI, wIe, isDD, isnotDD, wPar2, sumDD, eqS, reprD, wV, wC, wNil, wCons, wTup, wLst, wOp, wUn, wCall, wT, wNot, wAnd, wOr, wB, wAndV, wOrV, wNotV, wIf, wIsi, wChain, wNo, wPart, wSl, wSet, wSetO, wTg, wPnil, wPcons, wPar, wNext, wSeq, wRet, wRetO, wRetN, wIfS, wBrk, wCnt, wDrop, wFrz, wApp, wExt, wSetIx, wAugIx, wAug, wRnil, wRcons, wFn, wRaise, wWord, wRetH, wSetIxH, wCount, wIndex, wIsE, wListRg1, wListRg2, wYes, wIs, wIz, wIl, wIt, wIr1, wIr2, wSlS, wPop, wAppPop, R.wk, R.st, R.ar, R.bl, R.no, R.sq, R.slot, setsR, startR, List.map_cons, List.map_nil, List.cons_append, List.nil_append, List.length_cons, List.length_nil, List.replicate, List.getElem?_cons_zero, List.getElem?_cons_succ, Option.some.injEq, exists_eq_left', exists_eq_left, R.d.injEq, R.own.injEq, R.fr.injEq, List.set_cons_zero, List.set_cons_succ, addD, subD, mulDD, fdivD, modD, ltD, leD, gtD, geD, eqD, neD, isND, isnotND, inDD, notInDD, ixD, negD, lenD, absD, intD, min2D, max2D, listD, tupleD, slD, Nat.reduceAdd, Nat.reduceSub, Nat.add_zero, Nat.zero_add, true_and, and_true, ite_true, ite_false, if_true, if_false, Bool.false_eq_true, reduceIte, Option.some_inj, Bool.true_eq_false, tgW, tgWs, wipe3, List.set_nil])
      refine ⟨by simp; omega, ?_⟩
      refine max0 ?_
      (try simp only [wIzM, wWordV, wDc, wDn, wDGet, wDIn, wDNotIn, wDPut, wRetK, wFrzK, keyOf, R.dk.injEq, R.fk.injEq, wRev, neS, wSortLL, wSetIfO, ltDD, sortedDI, wIe, isDD, isnotDD, wPar2, sumDD, eqS, reprD, wV, wC, wNil, wCons, wTup, wLst, wOp, wUn, wCall, wT, wNot, wAnd, wOr, wB, wAndV, wOrV, wNotV, wIf, wIsi, wChain, wNo, wPart, wSl, wSet, wSetO, wTg, wPnil, wPcons, wPar, wNext, wSeq, wRet, wRetO, wRetN, wIfS, wBrk, wCnt, wDrop, wFrz, wApp, wExt, wSetIx, wAugIx, wAug, wRnil, wRcons, wFn, wRaise, wWord, wRetH, wSetIxH, wCount, wIndex, wIsE, wListRg1, wListRg2, wYes, wIs, wIz, wIl, wIt, wIr1, wIr2, wSlS, wPop, wAppPop, R.wk, R.st, R.ar, R.bl, R.no, R.sq, R.slot, setsR, startR, List.map_cons, List.map_nil, List.cons_append, List.nil_append, List.length_cons, List.length_nil, List.replicate, List.getElem?_cons_zero, List.getElem?_cons_succ, Option.some.injEq, exists_eq_left', exists_eq_left, R.d.injEq, R.own.injEq, R.fr.injEq, List.set_cons_zero, List.set_cons_succ, addD, subD, mulDD, fdivD, modD, ltD, leD, gtD, geD, eqD, neD, isND, isnotND, inDD, notInDD, ixD, negD, lenD, absD, intD, min2D, max2D, listD, tupleD, slD, Nat.reduceAdd, Nat.reduceSub, Nat.add_zero, Nat.zero_add, true_and, and_true, ite_true, ite_false, if_true, if_false, Bool.false_eq_true, reduceIte, Option.some_inj, Bool.true_eq_false, tgW, tgWs, wipe3, List.set_nil])
      have hv : s < (v.map PyData.int).length := by rw [List.length_map, b.len]; exact hs
      refine ⟨s, ix_of hv, ?_⟩
      rw [set_map]
      exact hN _ ⟨dn ++ [s], todo, _, _, _, by rw [f1]; simp, f3, bv_step hr b hs (· ∈ dn ++ [s]) (fun i hi q => by
        rcases List.mem_append.mp q with q | q
        · exact .inr q
        · exact .inl (List.mem_singleton.mp q)) (fun _ w hw' => (hw w hw').2), rfl⟩
theorem ok_raw_begins (D : Txt K mg base T) : Cal false P w K mg base T 2 "raw_begins" C_raw_begins :=
  cal_of (wb := w_raw_begins) D.d_raw_begins sc_raw_begins bi_raw_begins l_raw_begins (fun f cdv A outer s H E hp hr hgd => ess_cons (es_setO (i := 1) sc_raw_begins.nd rfl (by first | exact Or.inl rfl | exact Or.inr rfl) (ev_op op_mulDD (ev_lst (el_cons selS (ev_int) (el_nil))) (ev_callB cr_len rfl D.n_len bb_len (el_cons selW (ev_var (pv 0)) (el_nil))))) (ess_cons (es_for (g := .one 2) own_cx rfl (ei_seq (ev_fnC (ok_raw_order D) hr (by decide) (fun h => by cases h) rfl pass_cx (er_cons (ev_var (pv 0)) (er_nil)))) (pg_name (i := 2) sc_raw_begins.nd rfl (by first | exact Or.inl rfl | exact Or.inr rfl)) (ess_one (es_setIx (ev_callB (cr_maxD rfl) rfl D.n_max bb_max (el_cons selW (ev_op op_addD (ev_lst (el_cons selS (ev_int) (el_nil))) (ev_lc (own := [("one", 3)]) (g := .one 3) rfl sc_raw_begins.nd (ei_seq (ev_ix ix_D (ev_ix ix_D (ev_var (pv 0)) (ev_var (pv 2)) (fun _ _ => rfl)) (ev_int) (fun _ _ => rfl))) (blkOk_by (N := N_raw_begins) (sc := defScope s_raw_begins) (by decide +kernel)) (by decide) (fun _ _ _ _ _ => pg_name (i := 3) sc_raw_begins.nd rfl (Or.inl rfl)) (fun _ _ _ _ _ => eb_yes) (fun _ _ _ _ _ => ev_op op_addD (ev_ix ix_D (ev_var (pv 1)) (ev_var (pv 3)) (fun _ _ => rfl)) (ev_ix ix_D (ev_ix ix_D (ev_var (pv 0)) (ev_var (pv 3)) (fun _ _ => rfl)) (ev_int) (fun _ _ => rfl))))) (el_nil))) (pv 1) (ev_var (pv 2))))) (ess_one (es_retO (pv 1))))) p_raw_begins
/-! ### raw_least -/
abbrev N_raw_least : List Str := ["dish", "begin", "minutes", "waits"]
theorem sc_raw_least : FnScope N_raw_least ["dish"] (defScope s_raw_least) := ⟨rfl, rfl, rfl, by decide +kernel, rfl, by decide +kernel, by decide +kernel⟩
theorem bi_raw_least : BindsBy "raw_least" s_raw_least ["dish"] := fun _ _ _ _ _ _ us hl => match us, hl with | [_], _ => rfl
def w_raw_least : WS := wRet (wCall maxD (wCons R.wk (wLc (wIzM (wFn C_raw_begins (wRcons (wV 0) (wRnil))) (wV 0)) (.tup [.one 1, .tup [.one 2, .one 3]]) wYes (wOp addD (wV 1) (wV 2)) [1, 2, 3]) (wNil)))
-- splitall
-- hint zipM:raw_begins(dish)
abbrev eD (ss : List St) : Int := eL (Wf ss) (df ss) ss.length
theorem ss_range {β : Type} (ss : List St) (f : St → β) : ss.map f = (List.range ss.length).map fun i => f (df ss i, Wf ss i) := by
  apply List.ext_getElem?
  intro i
  by_cases h : i < ss.length
  · unfold df Wf
    simp [h, List.getD_eq_getElem?_getD]
  · rw [List.getElem?_eq_none (by simp; omega), List.getElem?_eq_none (by simp; omega)]
theorem zip_rr (n : Nat) (F G : Nat → PyData) : zipD ((List.range n).map F) ((List.range n).map G) = (List.range n).map fun i => .tuple [F i, G i] := by
  rw [zipD_map]
  have : (List.range n).zip (List.range n) = (List.range n).map fun i => (i, i) := by
    apply List.ext_getElem?
    intro i
    by_cases h : i < n
    · simp [List.getElem?_zip_eq_some, h]
    · rw [List.getElem?_eq_none (by simp; omega), List.getElem?_eq_none (by simp; omega)]
  rw [this, List.map_map]
  rfl
theorem map_int {n : Nat} (f : Nat → Int) : ((List.range n).map f).map PyData.int = (List.range n).map fun i => .int (f i) := by
  rw [List.map_map]
  rfl
theorem max_is {ss : List St} (g : GoodD ss) {k : R → Prop} (h : k (.d (.int (eD ss)))) : maxD [.list ((List.range ss.length).map fun i => .int (lp (Wf ss) (df ss) ss.length i + df ss i))] k := by
  have e := map_int (n := ss.length) fun i => lp (Wf ss) (df ss) ss.length i + df ss i
  rw [← e]
  refine best_is (by rw [List.length_map, List.length_range]; have := g.n1; omega) fun m h1 h2 => ?_
  have := mx_of (fun y hy => ?_) h1 h2
  · rw [this]
    exact h
  · obtain ⟨i, hi, rfl⟩ := List.mem_map.mp hy
    rw [List.mem_range] at hi
    have a := (good_at g hi).m1
    have b := lp_nn (W := Wf ss) (d := df ss) ss.length i
    show 0 ≤ _
    have a' : 1 ≤ df ss i := a
    omega
def C_raw_least : Ct := fun rs Q _ => ∃ ss, rs = [.d (dsD ss)] ∧ GoodD ss ∧ (ordL ss).length = ss.length ∧ Q (.d (.int (eD ss)))
theorem l_raw_least : ∀ rs Q X, C_raw_least rs Q X → rs.length = 1 := by
  rintro rs Q X ⟨_, rfl, _⟩
  rfl
theorem p_raw_least : ∀ rs Q X, C_raw_least rs Q X → w_raw_least ⟨fun _ => Q (.d .none), Q, fun _ => False, fun _ => False⟩ (startR N_raw_least rs) X := by
  rintro rs Q X ⟨ss, rfl, g, ho, h⟩
  (try simp only [wIzM, wWordV, wDc, wDn, wDGet, wDIn, wDNotIn, wDPut, wRetK, wFrzK, keyOf, R.dk.injEq, R.fk.injEq, wRev, neS, wSortLL, wSetIfO, ltDD, sortedDI, wIe, isDD, isnotDD, wPar2, sumDD, eqS, reprD, wV, wC, wNil, wCons, wTup, wLst, wOp, wUn, wCall, wT, wNot, wAnd, wOr, wB, wAndV, wOrV, wNotV, wIf, wIsi, wChain, wNo, wPart, wSl, wSet, wSetO, wTg, wPnil, wPcons, wPar, wNext, wSeq, wRet, wRetO, wRetN, wIfS, wBrk, wCnt, wDrop, wFrz, wApp, wExt, wSetIx, wAugIx, wAug, wRnil, wRcons, wFn, wRaise, wWord, wRetH, wSetIxH, wCount, wIndex, wIsE, wListRg1, wListRg2, wYes, wIs, wIz, wIl, wIt, wIr1, wIr2, wSlS, wPop, wAppPop, R.wk, R.st, R.ar, R.bl, R.no, R.sq, R.slot, setsR, startR, List.map_cons, List.map_nil, List.cons_append, List.nil_append, List.length_cons, List.length_nil, List.replicate, List.getElem?_cons_zero, List.getElem?_cons_succ, Option.some.injEq, exists_eq_left', exists_eq_left, R.d.injEq, R.own.injEq, R.fr.injEq, List.set_cons_zero, List.set_cons_succ, addD, subD, mulDD, fdivD, modD, ltD, leD, gtD, geD, eqD, neD, isND, isnotND, inDD, notInDD, ixD, negD, lenD, absD, intD, min2D, max2D, listD, tupleD, slD, Nat.reduceAdd, Nat.reduceSub, Nat.add_zero, Nat.zero_add, true_and, and_true, ite_true, ite_false, if_true, if_false, Bool.false_eq_true, reduceIte, Option.some_inj, Bool.true_eq_false, tgW, tgWs, wipe3, List.set_nil, w_raw_least, wLc, C_raw_begins])
  refine ⟨ss, rfl, g, ho, ?_⟩
  (try simp only [wIzM, wWordV, wDc, wDn, wDGet, wDIn, wDNotIn, wDPut, wRetK, wFrzK, keyOf, R.dk.injEq, R.fk.injEq, wRev, neS, wSortLL, wSetIfO, ltDD, sortedDI, wIe, isDD, isnotDD, wPar2, sumDD, eqS, reprD, wV, wC, wNil, wCons, wTup, wLst, wOp, wUn, wCall, wT, wNot, wAnd, wOr, wB, wAndV, wOrV, wNotV, wIf, wIsi, wChain, wNo, wPart, wSl, wSet, wSetO, wTg, wPnil, wPcons, wPar, wNext, wSeq, wRet, wRetO, wRetN, wIfS, wBrk, wCnt, wDrop, wFrz, wApp, wExt, wSetIx, wAugIx, wAug, wRnil, wRcons, wFn, wRaise, wWord, wRetH, wSetIxH, wCount, wIndex, wIsE, wListRg1, wListRg2, wYes, wIs, wIz, wIl, wIt, wIr1, wIr2, wSlS, wPop, wAppPop, R.wk, R.st, R.ar, R.bl, R.no, R.sq, R.slot, setsR, startR, List.map_cons, List.map_nil, List.cons_append, List.nil_append, List.length_cons, List.length_nil, List.replicate, List.getElem?_cons_zero, List.getElem?_cons_succ, Option.some.injEq, exists_eq_left', exists_eq_left, R.d.injEq, R.own.injEq, R.fr.injEq, List.set_cons_zero, List.set_cons_succ, addD, subD, mulDD, fdivD, modD, ltD, leD, gtD, geD, eqD, neD, isND, isnotND, inDD, notInDD, ixD, negD, lenD, absD, intD, min2D, max2D, listD, tupleD, slD, Nat.reduceAdd, Nat.reduceSub, Nat.add_zero, Nat.zero_add, true_and, and_true, ite_true, ite_false, if_true, if_false, Bool.false_eq_true, reduceIte, Option.some_inj, Bool.true_eq_false, tgW, tgWs, wipe3, List.set_nil])
  rw [bL, map_int, ss_range ss stepD, zip_rr]
  refine lc_mapm (fun i => .tuple [.int (lp (Wf ss) (df ss) ss.length i), stepD (df ss i, Wf ss i)]) (fun i => .int (lp (Wf ss) (df ss) ss.length i + df ss i)) _ (fun a b e => ?_) (fun i hi k hk => ?_) ?_
  · injection e with e
    injection e with e1 e2
    injection e2 with e2 _
    injection e1 with e1
    have := congrArg Prod.fst (stepD_inj e2)
    have this' : df ss a = df ss b := this
    show PyData.int (lp (Wf ss) (df ss) ss.length a + df ss a) = .int (lp (Wf ss) (df ss) ss.length b + df ss b)
    rw [e1, this']
  · (try simp only [wIzM, wWordV, wDc, wDn, wDGet, wDIn, wDNotIn, wDPut, wRetK, wFrzK, keyOf, R.dk.injEq, R.fk.injEq, wRev, neS, wSortLL, wSetIfO, ltDD, sortedDI, wIe, isDD, isnotDD, wPar2, sumDD, eqS, reprD, wV, wC, wNil, wCons, wTup, wLst, wOp, wUn, wCall, wT, wNot, wAnd, wOr, wB, wAndV, wOrV, wNotV, wIf, wIsi, wChain, wNo, wPart, wSl, wSet, wSetO, wTg, wPnil, wPcons, wPar, wNext, wSeq, wRet, wRetO, wRetN, wIfS, wBrk, wCnt, wDrop, wFrz, wApp, wExt, wSetIx, wAugIx, wAug, wRnil, wRcons, wFn, wRaise, wWord, wRetH, wSetIxH, wCount, wIndex, wIsE, wListRg1, wListRg2, wYes, wIs, wIz, wIl, wIt, wIr1, wIr2, wSlS, wPop, wAppPop, R.wk, R.st, R.ar, R.bl, R.no, R.sq, R.slot, setsR, startR, List.map_cons, List.map_nil, List.cons_append, List.nil_append, List.length_cons, List.length_nil, List.replicate, List.getElem?_cons_zero, List.getElem?_cons_succ, Option.some.injEq, exists_eq_left', exists_eq_left, R.d.injEq, R.own.injEq, R.fr.injEq, List.set_cons_zero, List.set_cons_succ, addD, subD, mulDD, fdivD, modD, ltD, leD, gtD, geD, eqD, neD, isND, isnotND, inDD, notInDD, ixD, negD, lenD, absD, intD, min2D, max2D, listD, tupleD, slD, Nat.reduceAdd, Nat.reduceSub, Nat.add_zero, Nat.zero_add, true_and, and_true, ite_true, ite_false, if_true, if_false, Bool.false_eq_true, reduceIte, Option.some_inj, Bool.true_eq_false, tgW, tgWs, wipe3, List.set_nil])
    exact hk
  · (try simp only [wIzM, wWordV, wDc, wDn, wDGet, wDIn, wDNotIn, wDPut, wRetK, wFrzK, keyOf, R.dk.injEq, R.fk.injEq, wRev, neS, wSortLL, wSetIfO, ltDD, sortedDI, wIe, isDD, isnotDD, wPar2, sumDD, eqS, reprD, wV, wC, wNil, wCons, wTup, wLst, wOp, wUn, wCall, wT, wNot, wAnd, wOr, wB, wAndV, wOrV, wNotV, wIf, wIsi, wChain, wNo, wPart, wSl, wSet, wSetO, wTg, wPnil, wPcons, wPar, wNext, wSeq, wRet, wRetO, wRetN, wIfS, wBrk, wCnt, wDrop, wFrz, wApp, wExt, wSetIx, wAugIx, wAug, wRnil, wRcons, wFn, wRaise, wWord, wRetH, wSetIxH, wCount, wIndex, wIsE, wListRg1, wListRg2, wYes, wIs, wIz, wIl, wIt, wIr1, wIr2, wSlS, wPop, wAppPop, R.wk, R.st, R.ar, R.bl, R.no, R.sq, R.slot, setsR, startR, List.map_cons, List.map_nil, List.cons_append, List.nil_append, List.length_cons, List.length_nil, List.replicate, List.getElem?_cons_zero, List.getElem?_cons_succ, Option.some.injEq, exists_eq_left', exists_eq_left, R.d.injEq, R.own.injEq, R.fr.injEq, List.set_cons_zero, List.set_cons_succ, addD, subD, mulDD, fdivD, modD, ltD, leD, gtD, geD, eqD, neD, isND, isnotND, inDD, notInDD, ixD, negD, lenD, absD, intD, min2D, max2D, listD, tupleD, slD, Nat.reduceAdd, Nat.reduceSub, Nat.add_zero, Nat.zero_add, true_and, and_true, ite_true, ite_false, if_true, if_false, Bool.false_eq_true, reduceIte, Option.some_inj, Bool.true_eq_false, tgW, tgWs, wipe3, List.set_nil])
    exact max_is g ⟨trivial, h⟩
theorem ok_raw_least (D : Txt K mg base T) : Cal false P w K mg base T 3 "raw_least" C_raw_least :=
  cal_of (wb := w_raw_least) D.d_raw_least sc_raw_least bi_raw_least l_raw_least (fun f cdv A outer s H E hp hr hgd => ess_one (es_ret (ev_callB (cr_maxD rfl) rfl D.n_max bb_max (el_cons selW (ev_lc (own := [("begin", 1), ("minutes", 2), ("waits", 3)]) (g := .tup [.one 1, .tup [.one 2, .one 3]]) rfl sc_raw_least.nd (ei_zipM rfl D.n_zip (ev_fnC (ok_raw_begins D) hr (by decide) (fun h => by cases h) rfl pass_cx (er_cons (ev_var (pv 0)) (er_nil))) (ev_var (pv 0))) (blkOk_by (N := N_raw_least) (sc := defScope s_raw_least) (by decide +kernel)) (by decide) (fun _ _ _ _ _ => pg_tup rfl (pgs_cons (pg_name (i := 1) sc_raw_least.nd rfl (Or.inl rfl)) (pgs_cons (pg_tup rfl (pgs_cons (pg_name (i := 2) sc_raw_least.nd rfl (Or.inl rfl)) (pgs_cons (pg_name (i := 3) sc_raw_least.nd rfl (Or.inl rfl)) (pgs_nil)))) (pgs_nil)))) (fun _ _ _ _ _ => eb_yes) (fun _ _ _ _ _ => ev_op op_addD (ev_var (pv 1)) (ev_var (pv 2)))) (el_nil))))) p_raw_least
/-! ### raw_latest -/
abbrev N_raw_latest : List Str := ["dish", "whole", "found", "step", "one", "minutes", "waits"]
theorem sc_raw_latest : FnScope N_raw_latest ["dish"] (defScope s_raw_latest) := ⟨rfl, rfl, rfl, by decide +kernel, rfl, by decide +kernel, by decide +kernel⟩
theorem bi_raw_latest : BindsBy "raw_latest" s_raw_latest ["dish"] := fun _ _ _ _ _ _ us hl => match us, hl with | [_], _ => rfl
def b2_raw_latest : WS := wSetIx 2 (wV 4) (wCall min2D (wCons R.wk (wOp ixD (wV 2) (wV 4)) (wCons R.wk (wOp subD (wOp ixD (wV 2) (wV 3)) (wOp ixD (wOp ixD (wV 0) (wV 4)) (wC (.int 0)))) (wNil))))
def b1_raw_latest : WS := wFor (wIs (wOp ixD (wOp ixD (wV 0) (wV 3)) (wC (.int 1)))) (.one 4) (b2_raw_latest)
def w_raw_latest_3 : WS := wRetO 2
def w_raw_latest_2 : WS := wSeq (wFor (wIs (wRev (wFn C_raw_order (wRcons (wV 0) (wRnil))))) (.one 3) (b1_raw_latest)) (w_raw_latest_3)
def w_raw_latest_1 : WS := wSeq (wSetO 2 (wLc (wIs (wV 0)) (.tup [.one 5, .one 6]) wYes (wOp subD (wV 1) (wV 5)) [5, 6])) (w_raw_latest_2)
def w_raw_latest : WS := wSeq (wSet 1 (wFn C_raw_least (wRcons (wV 0) (wRnil)))) (w_raw_latest_1)
-- splitall
def lLs (ss : List St) : List Int := (List.range ss.length).map (lL (Wf ss) (df ss) ss.length)
def C_raw_latest : Ct := fun rs Q _ => ∃ ss, rs = [.d (dsD ss)] ∧ GoodD ss ∧ (ordL ss).length = ss.length ∧ Q (.fr ((lLs ss).map .int))
theorem l_raw_latest : ∀ rs Q X, C_raw_latest rs Q X → rs.length = 1 := by
  rintro rs Q X ⟨_, rfl, _⟩
  rfl
theorem behind {W : Nat → List Nat} {n : Nat} {f P todo : List Nat} {s : Nat} (t : Topo W n f) (h : f.length = n) (e : f.reverse = P ++ s :: todo) : ∀ j, j < n → s ∈ W j → j ∈ P := by
  intro j hj hs
  have e2 : f = todo.reverse ++ s :: P.reverse := by
    have := congrArg List.reverse e
    rw [List.reverse_reverse] at this
    rw [this]
    simp
  have nd := t.nd
  rw [e2, List.nodup_append] at nd
  have hns : s ∉ todo.reverse := fun c => nd.2.2 s c s List.mem_cons_self rfl
  have hin := topo_all t (by omega) j hj
  rw [e2] at hin
  rcases List.mem_append.mp hin with c | c
  · obtain ⟨m1, m2, e3⟩ := List.append_of_mem c
    have := t.top m1 j (m2 ++ s :: P.reverse) (by rw [e2, e3]; simp) s hs
    exact absurd (by rw [e3]; exact List.mem_append_left _ this) hns
  · rcases List.mem_cons.mp c with rfl | c
    · exact absurd (t.top _ _ _ e2 _ hs) hns
    · exact List.mem_reverse.mp c
/-- one update -/
theorem lv_upd {W : Nat → List Nat} {d : Nat → Int} {n : Nat} {r : Nat → Nat} (h : Rk W n r) {S S' : Nat → Nat → Prop} {v : List Int} (l : Lv W d n S v) {s i : Nat} (hs : s < n) (hi : i ∈ W s) (hS : ∀ j k, k < n → S' j k → S j k ∨ (j = s ∧ k = i ∧ gv v s = lL W d n s)) :
    Lv W d n S' (v.set i (if gv v s - d i < gv v i then gv v s - d i else gv v i)) := lv_weak (lv_step h l hs hi).1 fun j k hk q => hS j k hk q
theorem p_raw_latest : ∀ rs Q X, C_raw_latest rs Q X → w_raw_latest ⟨fun _ => Q (.d .none), Q, fun _ => False, fun _ => False⟩ (startR N_raw_latest rs) X := by
  rintro rs Q X ⟨ss, rfl, g, ho, h⟩
  have hz := sizeLine_eq
  have n10 := g.n10
  have hr := ord_rk ho
  have ht := ordL_topo ss
  (try simp only [wIzM, wWordV, wDc, wDn, wDGet, wDIn, wDNotIn, wDPut, wRetK, wFrzK, keyOf, R.dk.injEq, R.fk.injEq, wRev, neS, wSortLL, wSetIfO, ltDD, sortedDI, wIe, isDD, isnotDD, wPar2, sumDD, eqS, reprD, wV, wC, wNil, wCons, wTup, wLst, wOp, wUn, wCall, wT, wNot, wAnd, wOr, wB, wAndV, wOrV, wNotV, wIf, wIsi, wChain, wNo, wPart, wSl, wSet, wSetO, wTg, wPnil, wPcons, wPar, wNext, wSeq, wRet, wRetO, wRetN, wIfS, wBrk, wCnt, wDrop, wFrz, wApp, wExt, wSetIx, wAugIx, wAug, wRnil, wRcons, wFn, wRaise, wWord, wRetH, wSetIxH, wCount, wIndex, wIsE, wListRg1, wListRg2, wYes, wIs, wIz, wIl, wIt, wIr1, wIr2, wSlS, wPop, wAppPop, R.wk, R.st, R.ar, R.bl, R.no, R.sq, R.slot, setsR, startR, List.map_cons, List.map_nil, List.cons_append, List.nil_append, List.length_cons, List.length_nil, List.replicate, List.getElem?_cons_zero, List.getElem?_cons_succ, Option.some.injEq, exists_eq_left', exists_eq_left, R.d.injEq, R.own.injEq, R.fr.injEq, List.set_cons_zero, List.set_cons_succ, addD, subD, mulDD, fdivD, modD, ltD, leD, gtD, geD, eqD, neD, isND, isnotND, inDD, notInDD, ixD, negD, lenD, absD, intD, min2D, max2D, listD, tupleD, slD, Nat.reduceAdd, Nat.reduceSub, Nat.add_zero, Nat.zero_add, true_and, and_true, ite_true, ite_false, if_true, if_false, Bool.false_eq_true, reduceIte, Option.some_inj, Bool.true_eq_false, tgW, tgWs, wipe3, List.set_nil, w_raw_latest, C_raw_least])
  refine ⟨ss, rfl, g, ho, ?_⟩
  (try simp only [wIzM, wWordV, wDc, wDn, wDGet, wDIn, wDNotIn, wDPut, wRetK, wFrzK, keyOf, R.dk.injEq, R.fk.injEq, wRev, neS, wSortLL, wSetIfO, ltDD, sortedDI, wIe, isDD, isnotDD, wPar2, sumDD, eqS, reprD, wV, wC, wNil, wCons, wTup, wLst, wOp, wUn, wCall, wT, wNot, wAnd, wOr, wB, wAndV, wOrV, wNotV, wIf, wIsi, wChain, wNo, wPart, wSl, wSet, wSetO, wTg, wPnil, wPcons, wPar, wNext, wSeq, wRet, wRetO, wRetN, wIfS, wBrk, wCnt, wDrop, wFrz, wApp, wExt, wSetIx, wAugIx, wAug, wRnil, wRcons, wFn, wRaise, wWord, wRetH, wSetIxH, wCount, wIndex, wIsE, wListRg1, wListRg2, wYes, wIs, wIz, wIl, wIt, wIr1, wIr2, wSlS, wPop, wAppPop, R.wk, R.st, R.ar, R.bl, R.no, R.sq, R.slot, setsR, startR, List.map_cons, List.map_nil, List.cons_append, List.nil_append, List.length_cons, List.length_nil, List.replicate, List.getElem?_cons_zero, List.getElem?_cons_succ, Option.some.injEq, exists_eq_left', exists_eq_left, R.d.injEq, R.own.injEq, R.fr.injEq, List.set_cons_zero, List.set_cons_succ, addD, subD, mulDD, fdivD, modD, ltD, leD, gtD, geD, eqD, neD, isND, isnotND, inDD, notInDD, ixD, negD, lenD, absD, intD, min2D, max2D, listD, tupleD, slD, Nat.reduceAdd, Nat.reduceSub, Nat.add_zero, Nat.zero_add, true_and, and_true, ite_true, ite_false, if_true, if_false, Bool.false_eq_true, reduceIte, Option.some_inj, Bool.true_eq_false, tgW, tgWs, wipe3, List.set_nil, w_raw_latest_1, wLc])
  refine lc_mapm stepD (fun p => .int (eD ss - p.1)) ss (fun a b e => by rw [stepD_inj e]) (fun p hp k hk => ?_) ?_
  · (try simp only [wIzM, wWordV, wDc, wDn, wDGet, wDIn, wDNotIn, wDPut, wRetK, wFrzK, keyOf, R.dk.injEq, R.fk.injEq, wRev, neS, wSortLL, wSetIfO, ltDD, sortedDI, wIe, isDD, isnotDD, wPar2, sumDD, eqS, reprD, wV, wC, wNil, wCons, wTup, wLst, wOp, wUn, wCall, wT, wNot, wAnd, wOr, wB, wAndV, wOrV, wNotV, wIf, wIsi, wChain, wNo, wPart, wSl, wSet, wSetO, wTg, wPnil, wPcons, wPar, wNext, wSeq, wRet, wRetO, wRetN, wIfS, wBrk, wCnt, wDrop, wFrz, wApp, wExt, wSetIx, wAugIx, wAug, wRnil, wRcons, wFn, wRaise, wWord, wRetH, wSetIxH, wCount, wIndex, wIsE, wListRg1, wListRg2, wYes, wIs, wIz, wIl, wIt, wIr1, wIr2, wSlS, wPop, wAppPop, R.wk, R.st, R.ar, R.bl, R.no, R.sq, R.slot, setsR, startR, List.map_cons, List.map_nil, List.cons_append, List.nil_append, List.length_cons, List.length_nil, List.replicate, List.getElem?_cons_zero, List.getElem?_cons_succ, Option.some.injEq, exists_eq_left', exists_eq_left, R.d.injEq, R.own.injEq, R.fr.injEq, List.set_cons_zero, List.set_cons_succ, addD, subD, mulDD, fdivD, modD, ltD, leD, gtD, geD, eqD, neD, isND, isnotND, inDD, notInDD, ixD, negD, lenD, absD, intD, min2D, max2D, listD, tupleD, slD, Nat.reduceAdd, Nat.reduceSub, Nat.add_zero, Nat.zero_add, true_and, and_true, ite_true, ite_false, if_true, if_false, Bool.false_eq_true, reduceIte, Option.some_inj, Bool.true_eq_false, tgW, tgWs, wipe3, List.set_nil])
    exact hk
  have e0 : ss.map (fun p => PyData.int (eD ss - p.1)) = ((List.range ss.length).map fun i => eD ss - df ss i).map .int := by
    rw [ss_range ss fun p => PyData.int (eD ss - p.1), map_int]
  rw [e0]
  (try simp only [wIzM, wWordV, wDc, wDn, wDGet, wDIn, wDNotIn, wDPut, wRetK, wFrzK, keyOf, R.dk.injEq, R.fk.injEq, wRev, neS, wSortLL, wSetIfO, ltDD, sortedDI, wIe, isDD, isnotDD, wPar2, sumDD, eqS, reprD, wV, wC, wNil, wCons, wTup, wLst, wOp, wUn, wCall, wT, wNot, wAnd, wOr, wB, wAndV, wOrV, wNotV, wIf, wIsi, wChain, wNo, wPart, wSl, wSet, wSetO, wTg, wPnil, wPcons, wPar, wNext, wSeq, wRet, wRetO, wRetN, wIfS, wBrk, wCnt, wDrop, wFrz, wApp, wExt, wSetIx, wAugIx, wAug, wRnil, wRcons, wFn, wRaise, wWord, wRetH, wSetIxH, wCount, wIndex, wIsE, wListRg1, wListRg2, wYes, wIs, wIz, wIl, wIt, wIr1, wIr2, wSlS, wPop, wAppPop, R.wk, R.st, R.ar, R.bl, R.no, R.sq, R.slot, setsR, startR, List.map_cons, List.map_nil, List.cons_append, List.nil_append, List.length_cons, List.length_nil, List.replicate, List.getElem?_cons_zero, List.getElem?_cons_succ, Option.some.injEq, exists_eq_left', exists_eq_left, R.d.injEq, R.own.injEq, R.fr.injEq, List.set_cons_zero, List.set_cons_succ, addD, subD, mulDD, fdivD, modD, ltD, leD, gtD, geD, eqD, neD, isND, isnotND, inDD, notInDD, ixD, negD, lenD, absD, intD, min2D, max2D, listD, tupleD, slD, Nat.reduceAdd, Nat.reduceSub, Nat.add_zero, Nat.zero_add, true_and, and_true, ite_true, ite_false, if_true, if_false, Bool.false_eq_true, reduceIte, Option.some_inj, Bool.true_eq_false, tgW, tgWs, wipe3, List.set_nil, w_raw_latest_2, wFor, C_raw_order])
  refine ⟨ss, rfl, g, ?_⟩
  (try simp only [wIzM, wWordV, wDc, wDn, wDGet, wDIn, wDNotIn, wDPut, wRetK, wFrzK, keyOf, R.dk.injEq, R.fk.injEq, wRev, neS, wSortLL, wSetIfO, ltDD, sortedDI, wIe, isDD, isnotDD, wPar2, sumDD, eqS, reprD, wV, wC, wNil, wCons, wTup, wLst, wOp, wUn, wCall, wT, wNot, wAnd, wOr, wB, wAndV, wOrV, wNotV, wIf, wIsi, wChain, wNo, wPart, wSl, wSet, wSetO, wTg, wPnil, wPcons, wPar, wNext, wSeq, wRet, wRetO, wRetN, wIfS, wBrk, wCnt, wDrop, wFrz, wApp, wExt, wSetIx, wAugIx, wAug, wRnil, wRcons, wFn, wRaise, wWord, wRetH, wSetIxH, wCount, wIndex, wIsE, wListRg1, wListRg2, wYes, wIs, wIz, wIl, wIt, wIr1, wIr2, wSlS, wPop, wAppPop, R.wk, R.st, R.ar, R.bl, R.no, R.sq, R.slot, setsR, startR, List.map_cons, List.map_nil, List.cons_append, List.nil_append, List.length_cons, List.length_nil, List.replicate, List.getElem?_cons_zero, List.getElem?_cons_succ, Option.some.injEq, exists_eq_left', exists_eq_left, R.d.injEq, R.own.injEq, R.fr.injEq, List.set_cons_zero, List.set_cons_succ, addD, subD, mulDD, fdivD, modD, ltD, leD, gtD, geD, eqD, neD, isND, isnotND, inDD, notInDD, ixD, negD, lenD, absD, intD, min2D, max2D, listD, tupleD, slD, Nat.reduceAdd, Nat.reduceSub, Nat.add_zero, Nat.zero_add, true_and, and_true, ite_true, ite_false, if_true, if_false, Bool.false_eq_true, reduceIte, Option.some_inj, Bool.true_eq_false, tgW, tgWs, wipe3, List.set_nil])
  have er : ((natI (ordL ss)).map PyData.int).reverse = (natI (ordL ss).reverse).map .int := by
    rw [← List.map_reverse, ← List.map_reverse]
  rw [er]
  refine for_rule (fun rest ρ => ∃ (P todo : List Nat) (v : List Int) (o3 o4 : Option R), (ordL ss).reverse = P ++ todo ∧ rest = (natI todo).map .int ∧ Lv (Wf ss) (df ss) ss.length (fun j i => j ∈ P ∧ i ∈ Wf ss j) v ∧ ρ = [some (.d (dsD ss)), some (.d (.int (eD ss))), some (.own (v.map .int)), o3, o4, none, none]) _ _ ⟨[], (ordL ss).reverse, _, none, none, rfl, rfl, lv_weak lv_start fun _ _ _ q => (by cases q.1), rfl⟩ ?_ ?_
  · rintro ρ ⟨P, todo, v, o3, o4, f1, f2, l, rfl⟩
    cases todo with
    | cons a r => cases f2
    | nil =>
    rw [List.append_nil] at f1
    (try simp only [wIzM, wWordV, wDc, wDn, wDGet, wDIn, wDNotIn, wDPut, wRetK, wFrzK, keyOf, R.dk.injEq, R.fk.injEq, wRev, neS, wSortLL, wSetIfO, ltDD, sortedDI, wIe, isDD, isnotDD, wPar2, sumDD, eqS, reprD, wV, wC, wNil, wCons, wTup, wLst, wOp, wUn, wCall, wT, wNot, wAnd, wOr, wB, wAndV, wOrV, wNotV, wIf, wIsi, wChain, wNo, wPart, wSl, wSet, wSetO, wTg, wPnil, wPcons, wPar, wNext, wSeq, wRet, wRetO, wRetN, wIfS, wBrk, wCnt, wDrop, wFrz, wApp, wExt, wSetIx, wAugIx, wAug, wRnil, wRcons, wFn, wRaise, wWord, wRetH, wSetIxH, wCount, wIndex, wIsE, wListRg1, wListRg2, wYes, wIs, wIz, wIl, wIt, wIr1, wIr2, wSlS, wPop, wAppPop, R.wk, R.st, R.ar, R.bl, R.no, R.sq, R.slot, setsR, startR, List.map_cons, List.map_nil, List.cons_append, List.nil_append, List.length_cons, List.length_nil, List.replicate, List.getElem?_cons_zero, List.getElem?_cons_succ, Option.some.injEq, exists_eq_left', exists_eq_left, R.d.injEq, R.own.injEq, R.fr.injEq, List.set_cons_zero, List.set_cons_succ, addD, subD, mulDD, fdivD, modD, ltD, leD, gtD, geD, eqD, neD, isND, isnotND, inDD, notInDD, ixD, negD, lenD, absD, intD, min2D, max2D, listD, tupleD, slD, Nat.reduceAdd, Nat.reduceSub, Nat.add_zero, Nat.zero_add, true_and, and_true, ite_true, ite_false, if_true, if_false, Bool.false_eq_true, reduceIte, Option.some_inj, Bool.true_eq_false, tgW, tgWs, wipe3, List.set_nil, w_raw_latest_3])
    have : v = lLs ss := vals_eq l.len fun i hi => lv_at hr l hi fun j hj q => ⟨by
      rw [← f1, List.mem_reverse]
      exact topo_all ht (by omega) j hj, q⟩
    rw [this]
    exact h
  · rintro y rest ρ ⟨P, todo, v, o3, o4, f1, f2, l, rfl⟩ N hN
    cases todo with
    | nil => cases f2
    | cons s todo =>
    injection f2 with f2 f3
    subst f2
    have hs : s < ss.length := ht.lt s (List.mem_reverse.mp (by rw [f1]; simp))
    have hbe := behind ht ho f1
    (try simp only [wIzM, wWordV, wDc, wDn, wDGet, wDIn, wDNotIn, wDPut, wRetK, wFrzK, keyOf, R.dk.injEq, R.fk.injEq, wRev, neS, wSortLL, wSetIfO, ltDD, sortedDI, wIe, isDD, isnotDD, wPar2, sumDD, eqS, reprD, wV, wC, wNil, wCons, wTup, wLst, wOp, wUn, wCall, wT, wNot, wAnd, wOr, wB, wAndV, wOrV, wNotV, wIf, wIsi, wChain, wNo, wPart, wSl, wSet, wSetO, wTg, wPnil, wPcons, wPar, wNext, wSeq, wRet, wRetO, wRetN, wIfS, wBrk, wCnt, wDrop, wFrz, wApp, wExt, wSetIx, wAugIx, wAug, wRnil, wRcons, wFn, wRaise, wWord, wRetH, wSetIxH, wCount, wIndex, wIsE, wListRg1, wListRg2, wYes, wIs, wIz, wIl, wIt, wIr1, wIr2, wSlS, wPop, wAppPop, R.wk, R.st, R.ar, R.bl, R.no, R.sq, R.slot, setsR, startR, List.map_cons, List.map_nil, List.cons_append, List.nil_append, List.length_cons, List.length_nil, List.replicate, List.getElem?_cons_zero, List.getElem?_cons_succ, Option.some.injEq, exists_eq_left', exists_eq_left, R.d.injEq, R.own.injEq, R.fr.injEq, List.set_cons_zero, List.set_cons_succ, addD, subD, mulDD, fdivD, modD, ltD, leD, gtD, geD, eqD, neD, isND, isnotND, inDD, notInDD, ixD, negD, lenD, absD, intD, min2D, max2D, listD, tupleD, slD, Nat.reduceAdd, Nat.reduceSub, Nat.add_zero, Nat.zero_add, true_and, and_true, ite_true, ite_false, if_true, if_false, Bool.false_eq_true, reduceIte, Option.some_inj, Bool.true_eq_false, tgW, tgWs, wipe3, List.set_nil, b1_raw_latest, wFor, at_step hs, at1])
    refine for_rule (fun rest2 ρ => ∃ (dn td : List Nat) (v : List Int) (o4 : Option R), Wf ss s = dn ++ td ∧ rest2 = (natI td).map .int ∧ Lv (Wf ss) (df ss) ss.length (fun j i => (j ∈ P ∧ i ∈ Wf ss j) ∨ (j = s ∧ i ∈ dn)) v ∧ gv v s = lL (Wf ss) (df ss) ss.length s ∧ ρ = [some (.d (dsD ss)), some (.d (.int (eD ss))), some (.own (v.map .int)), some (.d (.int s)), o4, none, none]) _ _ ⟨[], Wf ss s, v, o4, rfl, rfl, lv_weak l fun j i _ q => q.resolve_right (fun c => by cases c.2), lv_at hr l hs fun j hj q => ⟨hbe j hj q, q⟩, rfl⟩ ?_ ?_
    · rintro ρ ⟨dn, td, v, o4, g1, g2, l, _, rfl⟩
      cases td with
      | cons a r => cases g2
      | nil =>
      rw [List.append_nil] at g1
      refine hN _ ⟨P ++ [s], todo, v, _, _, by rw [f1]; simp, f3, lv_weak l fun j i _ q => ?_, rfl⟩
      rcases List.mem_append.mp q.1 with c | c
      · exact .inl ⟨c, q.2⟩
      · rw [List.mem_singleton] at c
        subst c
        exact .inr ⟨rfl, by rw [← g1]; exact q.2⟩
    · rintro y2 rest2 ρ ⟨dn, td, v, o4, g1, g2, l, gs, rfl⟩ N2 hN2
      cases td with
      | nil => cases g2
      | cons i td =>
      injection g2 with g2 g3
      subst g2
      have hi : i ∈ Wf ss s := by rw [g1]; simp
      have hin := (hr.dn s hs i hi).1
      have hv1 : i < v.length := by rw [l.len]; exact hin
      have hv2 : s < v.length := by rw [l.len]; exact hs
      have hv3 : i < (v.map PyData.int).length := by rw [List.length_map]; exact hv1
      (try simp only [wIzM, wWordV, wDc, wDn, wDGet, wDIn, wDNotIn, wDPut, wRetK, wFrzK, keyOf, R.dk.injEq, R.fk.injEq, wRev, neS, wSortLL, wSetIfO, ltDD, sortedDI, wIe, isDD, isnotDD, wPar2, sumDD, eqS, reprD, wV, wC, wNil, wCons, wTup, wLst, wOp, wUn, wCall, wT, wNot, wAnd, wOr, wB, wAndV, wOrV, wNotV, wIf, wIsi, wChain, wNo, wPart, wSl, wSet, wSetO, wTg, wPnil, wPcons, wPar, wNext, wSeq, wRet, wRetO, wRetN, wIfS, wBrk, wCnt, wDrop, wFrz, wApp, wExt, wSetIx, wAugIx, wAug, wRnil, wRcons, wFn, wRaise, wWord, wRetH, wSetIxH, wCount, wIndex, wIsE, wListRg1, wListRg2, wYes, wIs, wIz, wIl, wIt, wIr1, wIr2, wSlS, wPop, wAppPop, R.wk, R.st, R.ar, R.bl, R.no, R.sq, R.slot, setsR, startR, List.map_cons, List.map_nil, List.cons_append, List.nil_append, List.length_cons, List.length_nil, List.replicate, List.getElem?_cons_zero, List.getElem?_cons_succ, Option.some.injEq, exists_eq_left', exists_eq_left, R.d.injEq, R.own.injEq, R.fr.injEq, List.set_cons_zero, List.set_cons_succ, addD, subD, mulDD, fdivD, modD, ltD, leD, gtD, geD, eqD, neD, isND, isnotND, inDD, notInDD, ixD, negD, lenD, absD, intD, min2D, max2D, listD, tupleD, slD, Nat.reduceAdd, Nat.reduceSub, Nat.add_zero, Nat.zero_add, true_and, and_true, ite_true, ite_false, if_true, if_false, Bool.false_eq_true, reduceIte, Option.some_inj, Bool.true_eq_false, tgW, tgWs, wipe3, List.set_nil, b2_raw_latest, at_gv hv1, at_gv hv2, at_step hin, at0])
      refine ⟨i, ix_of hv3, ?_⟩
      rw [set_map]
      have z := lv_step hr l hs hi
      have l' := lv_weak z.1 (S' := fun j k => (j ∈ P ∧ k ∈ Wf ss j) ∨ (j = s ∧ k ∈ dn ++ [i])) fun j k _ q => by
        rcases q with q | ⟨q1, q2⟩
        · exact .inl (.inl q)
        · rcases List.mem_append.mp q2 with c | c
          · exact .inl (.inr ⟨q1, c⟩)
          · exact .inr ⟨q1, List.mem_singleton.mp c, gs⟩
      refine hN2 _ ⟨dn ++ [i], td, _, _, by rw [g1]; simp, g3, l', ?_, rfl⟩
      have a1 := l'.lo s hs
      have a2 := z.2 s
      omega
theorem ok_raw_latest (D : Txt K mg base T) : Cal false P w K mg base T 4 "raw_latest" C_raw_latest :=
  cal_of (wb := w_raw_latest) D.d_raw_latest sc_raw_latest bi_raw_latest l_raw_latest (fun f cdv A outer s H E hp hr hgd => ess_cons (es_set (i := 1) sc_raw_latest.nd rfl (by first | exact Or.inl rfl | exact Or.inr rfl) (ev_fnC (ok_raw_least D) hr (by decide) (fun h => by cases h) rfl pass_cx (er_cons (ev_var (pv 0)) (er_nil)))) (ess_cons (es_setLcO (i := 2) (own := [("minutes", 5), ("waits", 6)]) (g := .tup [.one 5, .one 6]) rfl sc_raw_latest.nd rfl rfl (sw_true rfl rfl rfl (by decide +kernel)) (ei_seq (ev_var (pv 0))) (blkOk_by (N := N_raw_latest) (sc := defScope s_raw_latest) (by decide +kernel)) (by decide) (fun _ _ _ _ _ => pg_tup rfl (pgs_cons (pg_name (i := 5) sc_raw_latest.nd rfl (Or.inl rfl)) (pgs_cons (pg_name (i := 6) sc_raw_latest.nd rfl (Or.inl rfl)) (pgs_nil)))) (fun _ _ _ _ _ => eb_yes) (fun _ _ _ _ _ => ev_op op_subD (ev_var (pv 1)) (ev_var (pv 5)))) (ess_cons (es_for (g := .one 3) own_cx rfl (ei_seq (ev_rev (ev_fnC (ok_raw_order D) hr (by decide) (fun h => by cases h) rfl pass_cx (er_cons (ev_var (pv 0)) (er_nil))))) (pg_name (i := 3) sc_raw_latest.nd rfl (by first | exact Or.inl rfl | exact Or.inr rfl)) (ess_one (es_for (g := .one 4) own_cx rfl (ei_seq (ev_ix ix_D (ev_ix ix_D (ev_var (pv 0)) (ev_var (pv 3)) (fun _ _ => rfl)) (ev_int) (fun _ _ => rfl))) (pg_name (i := 4) sc_raw_latest.nd rfl (by first | exact Or.inl rfl | exact Or.inr rfl)) (ess_one (es_setIx (ev_callB (cr_min2 rfl) rfl D.n_min bb_min (el_cons selW (ev_ix ix_D (ev_var (pv 2)) (ev_var (pv 4)) (fun _ _ => rfl)) (el_cons selW (ev_op op_subD (ev_ix ix_D (ev_var (pv 2)) (ev_var (pv 3)) (fun _ _ => rfl)) (ev_ix ix_D (ev_ix ix_D (ev_var (pv 0)) (ev_var (pv 4)) (fun _ _ => rfl)) (ev_int) (fun _ _ => rfl))) (el_nil)))) (pv 2) (ev_var (pv 4))))))) (ess_one (es_retO (pv 2)))))) p_raw_latest
/-! ### begins -/
abbrev N_begins : List Str := ["dish"]
theorem sc_begins : FnScope N_begins ["dish"] (defScope s_begins) := ⟨rfl, rfl, rfl, by decide +kernel, rfl, by decide +kernel, by decide +kernel⟩
theorem bi_begins : BindsBy "begins" s_begins ["dish"] := fun _ _ _ _ _ _ us hl => match us, hl with | [_], _ => rfl
def w_begins : WS := wSeq (wDrop (wFn C_check_ordered (wRcons (wV 0) (wRnil)))) (wRet (wCall tupleD (wCons R.wk (wFn C_raw_begins (wRcons (wV 0) (wRnil))) (wNil))))
def C_begins : Ct := fun rs Q X => ∃ x, rs = [.d x] ∧ (okDish x = false → X ⟨"NoDish", none⟩) ∧ ∀ ss, x = dsD ss → GoodD ss → ((ordL ss).length ≠ ss.length → X ⟨"NoOrder", none⟩) ∧ ((ordL ss).length = ss.length → Q (.d (tupI (bL ss))))
theorem l_begins : ∀ rs Q X, C_begins rs Q X → rs.length = 1 := by
  rintro rs Q X ⟨_, rfl, _⟩
  rfl
theorem p_begins : ∀ rs Q X, C_begins rs Q X → w_begins ⟨fun _ => Q (.d .none), Q, fun _ => False, fun _ => False⟩ (startR N_begins rs) X := by
  rintro rs Q X ⟨x, rfl, h1, h2⟩
  (try simp only [wIzM, wWordV, wDc, wDn, wDGet, wDIn, wDNotIn, wDPut, wRetK, wFrzK, keyOf, R.dk.injEq, R.fk.injEq, wRev, neS, wSortLL, wSetIfO, ltDD, sortedDI, wIe, isDD, isnotDD, wPar2, sumDD, eqS, reprD, wV, wC, wNil, wCons, wTup, wLst, wOp, wUn, wCall, wT, wNot, wAnd, wOr, wB, wAndV, wOrV, wNotV, wIf, wIsi, wChain, wNo, wPart, wSl, wSet, wSetO, wTg, wPnil, wPcons, wPar, wNext, wSeq, wRet, wRetO, wRetN, wIfS, wBrk, wCnt, wDrop, wFrz, wApp, wExt, wSetIx, wAugIx, wAug, wRnil, wRcons, wFn, wRaise, wWord, wRetH, wSetIxH, wCount, wIndex, wIsE, wListRg1, wListRg2, wYes, wIs, wIz, wIl, wIt, wIr1, wIr2, wSlS, wPop, wAppPop, R.wk, R.st, R.ar, R.bl, R.no, R.sq, R.slot, setsR, startR, List.map_cons, List.map_nil, List.cons_append, List.nil_append, List.length_cons, List.length_nil, List.replicate, List.getElem?_cons_zero, List.getElem?_cons_succ, Option.some.injEq, exists_eq_left', exists_eq_left, R.d.injEq, R.own.injEq, R.fr.injEq, List.set_cons_zero, List.set_cons_succ, addD, subD, mulDD, fdivD, modD, ltD, leD, gtD, geD, eqD, neD, isND, isnotND, inDD, notInDD, ixD, negD, lenD, absD, intD, min2D, max2D, listD, tupleD, slD, Nat.reduceAdd, Nat.reduceSub, Nat.add_zero, Nat.zero_add, true_and, and_true, ite_true, ite_false, if_true, if_false, Bool.false_eq_true, reduceIte, Option.some_inj, Bool.true_eq_false, tgW, tgWs, wipe3, List.set_nil, w_begins, C_check_ordered])
  refine ⟨x, rfl, h1, fun ss e g => ?_⟩
  subst e
  obtain ⟨k1, k2⟩ := h2 ss rfl g
  refine ⟨k1, fun ho => ?_⟩
  have k := k2 ho
  (try simp only [wIzM, wWordV, wDc, wDn, wDGet, wDIn, wDNotIn, wDPut, wRetK, wFrzK, keyOf, R.dk.injEq, R.fk.injEq, wRev, neS, wSortLL, wSetIfO, ltDD, sortedDI, wIe, isDD, isnotDD, wPar2, sumDD, eqS, reprD, wV, wC, wNil, wCons, wTup, wLst, wOp, wUn, wCall, wT, wNot, wAnd, wOr, wB, wAndV, wOrV, wNotV, wIf, wIsi, wChain, wNo, wPart, wSl, wSet, wSetO, wTg, wPnil, wPcons, wPar, wNext, wSeq, wRet, wRetO, wRetN, wIfS, wBrk, wCnt, wDrop, wFrz, wApp, wExt, wSetIx, wAugIx, wAug, wRnil, wRcons, wFn, wRaise, wWord, wRetH, wSetIxH, wCount, wIndex, wIsE, wListRg1, wListRg2, wYes, wIs, wIz, wIl, wIt, wIr1, wIr2, wSlS, wPop, wAppPop, R.wk, R.st, R.ar, R.bl, R.no, R.sq, R.slot, setsR, startR, List.map_cons, List.map_nil, List.cons_append, List.nil_append, List.length_cons, List.length_nil, List.replicate, List.getElem?_cons_zero, List.getElem?_cons_succ, Option.some.injEq, exists_eq_left', exists_eq_left, R.d.injEq, R.own.injEq, R.fr.injEq, List.set_cons_zero, List.set_cons_succ, addD, subD, mulDD, fdivD, modD, ltD, leD, gtD, geD, eqD, neD, isND, isnotND, inDD, notInDD, ixD, negD, lenD, absD, intD, min2D, max2D, listD, tupleD, slD, Nat.reduceAdd, Nat.reduceSub, Nat.add_zero, Nat.zero_add, true_and, and_true, ite_true, ite_false, if_true, if_false, Bool.false_eq_true, reduceIte, Option.some_inj, Bool.true_eq_false, tgW, tgWs, wipe3, List.set_nil, C_raw_begins])
  refine ⟨ss, rfl, g, ho, ?_⟩
  (try simp only [wIzM, wWordV, wDc, wDn, wDGet, wDIn, wDNotIn, wDPut, wRetK, wFrzK, keyOf, R.dk.injEq, R.fk.injEq, wRev, neS, wSortLL, wSetIfO, ltDD, sortedDI, wIe, isDD, isnotDD, wPar2, sumDD, eqS, reprD, wV, wC, wNil, wCons, wTup, wLst, wOp, wUn, wCall, wT, wNot, wAnd, wOr, wB, wAndV, wOrV, wNotV, wIf, wIsi, wChain, wNo, wPart, wSl, wSet, wSetO, wTg, wPnil, wPcons, wPar, wNext, wSeq, wRet, wRetO, wRetN, wIfS, wBrk, wCnt, wDrop, wFrz, wApp, wExt, wSetIx, wAugIx, wAug, wRnil, wRcons, wFn, wRaise, wWord, wRetH, wSetIxH, wCount, wIndex, wIsE, wListRg1, wListRg2, wYes, wIs, wIz, wIl, wIt, wIr1, wIr2, wSlS, wPop, wAppPop, R.wk, R.st, R.ar, R.bl, R.no, R.sq, R.slot, setsR, startR, List.map_cons, List.map_nil, List.cons_append, List.nil_append, List.length_cons, List.length_nil, List.replicate, List.getElem?_cons_zero, List.getElem?_cons_succ, Option.some.injEq, exists_eq_left', exists_eq_left, R.d.injEq, R.own.injEq, R.fr.injEq, List.set_cons_zero, List.set_cons_succ, addD, subD, mulDD, fdivD, modD, ltD, leD, gtD, geD, eqD, neD, isND, isnotND, inDD, notInDD, ixD, negD, lenD, absD, intD, min2D, max2D, listD, tupleD, slD, Nat.reduceAdd, Nat.reduceSub, Nat.add_zero, Nat.zero_add, true_and, and_true, ite_true, ite_false, if_true, if_false, Bool.false_eq_true, reduceIte, Option.some_inj, Bool.true_eq_false, tgW, tgWs, wipe3, List.set_nil])
  exact k
theorem ok_begins (D : Txt K mg base T) : Cal false P w K mg base T 8 "begins" C_begins :=
  cal_of (wb := w_begins) D.d_begins sc_begins bi_begins l_begins (fun f cdv A outer s H E hp hr hgd => ess_cons (es_drop (ev_fnC (ok_check_ordered D) hr (by decide) (fun h => by cases h) rfl pass_cx (er_cons (ev_var (pv 0)) (er_nil)))) (ess_one (es_ret (ev_callTy cr_tuple rfl D.n_tuple bb_tuple (el_cons selW (ev_fnC (ok_raw_begins D) hr (by decide) (fun h => by cases h) rfl pass_cx (er_cons (ev_var (pv 0)) (er_nil))) (el_nil)))))) p_begins
/-! ### least_minutes -/
abbrev N_least_minutes : List Str := ["dish"]
theorem sc_least_minutes : FnScope N_least_minutes ["dish"] (defScope s_least_minutes) := ⟨rfl, rfl, rfl, by decide +kernel, rfl, by decide +kernel, by decide +kernel⟩
theorem bi_least_minutes : BindsBy "least_minutes" s_least_minutes ["dish"] := fun _ _ _ _ _ _ us hl => match us, hl with | [_], _ => rfl
def w_least_minutes : WS := wSeq (wDrop (wFn C_check_ordered (wRcons (wV 0) (wRnil)))) (wRet (wFn C_raw_least (wRcons (wV 0) (wRnil))))
def C_least_minutes : Ct := fun rs Q X => ∃ x, rs = [.d x] ∧ (okDish x = false → X ⟨"NoDish", none⟩) ∧ ∀ ss, x = dsD ss → GoodD ss → ((ordL ss).length ≠ ss.length → X ⟨"NoOrder", none⟩) ∧ ((ordL ss).length = ss.length → Q (.d (.int (eD ss))))
theorem l_least_minutes : ∀ rs Q X, C_least_minutes rs Q X → rs.length = 1 := by
  rintro rs Q X ⟨_, rfl, _⟩
  rfl
theorem p_least_minutes : ∀ rs Q X, C_least_minutes rs Q X → w_least_minutes ⟨fun _ => Q (.d .none), Q, fun _ => False, fun _ => False⟩ (startR N_least_minutes rs) X := by
  rintro rs Q X ⟨x, rfl, h1, h2⟩
  (try simp only [wIzM, wWordV, wDc, wDn, wDGet, wDIn, wDNotIn, wDPut, wRetK, wFrzK, keyOf, R.dk.injEq, R.fk.injEq, wRev, neS, wSortLL, wSetIfO, ltDD, sortedDI, wIe, isDD, isnotDD, wPar2, sumDD, eqS, reprD, wV, wC, wNil, wCons, wTup, wLst, wOp, wUn, wCall, wT, wNot, wAnd, wOr, wB, wAndV, wOrV, wNotV, wIf, wIsi, wChain, wNo, wPart, wSl, wSet, wSetO, wTg, wPnil, wPcons, wPar, wNext, wSeq, wRet, wRetO, wRetN, wIfS, wBrk, wCnt, wDrop, wFrz, wApp, wExt, wSetIx, wAugIx, wAug, wRnil, wRcons, wFn, wRaise, wWord, wRetH, wSetIxH, wCount, wIndex, wIsE, wListRg1, wListRg2, wYes, wIs, wIz, wIl, wIt, wIr1, wIr2, wSlS, wPop, wAppPop, R.wk, R.st, R.ar, R.bl, R.no, R.sq, R.slot, setsR, startR, List.map_cons, List.map_nil, List.cons_append, List.nil_append, List.length_cons, List.length_nil, List.replicate, List.getElem?_cons_zero, List.getElem?_cons_succ, Option.some.injEq, exists_eq_left', exists_eq_left, R.d.injEq, R.own.injEq, R.fr.injEq, List.set_cons_zero, List.set_cons_succ, addD, subD, mulDD, fdivD, modD, ltD, leD, gtD, geD, eqD, neD, isND, isnotND, inDD, notInDD, ixD, negD, lenD, absD, intD, min2D, max2D, listD, tupleD, slD, Nat.reduceAdd, Nat.reduceSub, Nat.add_zero, Nat.zero_add, true_and, and_true, ite_true, ite_false, if_true, if_false, Bool.false_eq_true, reduceIte, Option.some_inj, Bool.true_eq_false, tgW, tgWs, wipe3, List.set_nil, w_least_minutes, C_check_ordered])
  refine ⟨x, rfl, h1, fun ss e g => ?_⟩
  subst e
  obtain ⟨k1, k2⟩ := h2 ss rfl g
  refine ⟨k1, fun ho => ?_⟩
  have k := k2 ho
  (try simp only [wIzM, wWordV, wDc, wDn, wDGet, wDIn, wDNotIn, wDPut, wRetK, wFrzK, keyOf, R.dk.injEq, R.fk.injEq, wRev, neS, wSortLL, wSetIfO, ltDD, sortedDI, wIe, isDD, isnotDD, wPar2, sumDD, eqS, reprD, wV, wC, wNil, wCons, wTup, wLst, wOp, wUn, wCall, wT, wNot, wAnd, wOr, wB, wAndV, wOrV, wNotV, wIf, wIsi, wChain, wNo, wPart, wSl, wSet, wSetO, wTg, wPnil, wPcons, wPar, wNext, wSeq, wRet, wRetO, wRetN, wIfS, wBrk, wCnt, wDrop, wFrz, wApp, wExt, wSetIx, wAugIx, wAug, wRnil, wRcons, wFn, wRaise, wWord, wRetH, wSetIxH, wCount, wIndex, wIsE, wListRg1, wListRg2, wYes, wIs, wIz, wIl, wIt, wIr1, wIr2, wSlS, wPop, wAppPop, R.wk, R.st, R.ar, R.bl, R.no, R.sq, R.slot, setsR, startR, List.map_cons, List.map_nil, List.cons_append, List.nil_append, List.length_cons, List.length_nil, List.replicate, List.getElem?_cons_zero, List.getElem?_cons_succ, Option.some.injEq, exists_eq_left', exists_eq_left, R.d.injEq, R.own.injEq, R.fr.injEq, List.set_cons_zero, List.set_cons_succ, addD, subD, mulDD, fdivD, modD, ltD, leD, gtD, geD, eqD, neD, isND, isnotND, inDD, notInDD, ixD, negD, lenD, absD, intD, min2D, max2D, listD, tupleD, slD, Nat.reduceAdd, Nat.reduceSub, Nat.add_zero, Nat.zero_add, true_and, and_true, ite_true, ite_false, if_true, if_false, Bool.false_eq_true, reduceIte, Option.some_inj, Bool.true_eq_false, tgW, tgWs, wipe3, List.set_nil, C_raw_least])
  refine ⟨ss, rfl, g, ho, ?_⟩
  (try simp only [wIzM, wWordV, wDc, wDn, wDGet, wDIn, wDNotIn, wDPut, wRetK, wFrzK, keyOf, R.dk.injEq, R.fk.injEq, wRev, neS, wSortLL, wSetIfO, ltDD, sortedDI, wIe, isDD, isnotDD, wPar2, sumDD, eqS, reprD, wV, wC, wNil, wCons, wTup, wLst, wOp, wUn, wCall, wT, wNot, wAnd, wOr, wB, wAndV, wOrV, wNotV, wIf, wIsi, wChain, wNo, wPart, wSl, wSet, wSetO, wTg, wPnil, wPcons, wPar, wNext, wSeq, wRet, wRetO, wRetN, wIfS, wBrk, wCnt, wDrop, wFrz, wApp, wExt, wSetIx, wAugIx, wAug, wRnil, wRcons, wFn, wRaise, wWord, wRetH, wSetIxH, wCount, wIndex, wIsE, wListRg1, wListRg2, wYes, wIs, wIz, wIl, wIt, wIr1, wIr2, wSlS, wPop, wAppPop, R.wk, R.st, R.ar, R.bl, R.no, R.sq, R.slot, setsR, startR, List.map_cons, List.map_nil, List.cons_append, List.nil_append, List.length_cons, List.length_nil, List.replicate, List.getElem?_cons_zero, List.getElem?_cons_succ, Option.some.injEq, exists_eq_left', exists_eq_left, R.d.injEq, R.own.injEq, R.fr.injEq, List.set_cons_zero, List.set_cons_succ, addD, subD, mulDD, fdivD, modD, ltD, leD, gtD, geD, eqD, neD, isND, isnotND, inDD, notInDD, ixD, negD, lenD, absD, intD, min2D, max2D, listD, tupleD, slD, Nat.reduceAdd, Nat.reduceSub, Nat.add_zero, Nat.zero_add, true_and, and_true, ite_true, ite_false, if_true, if_false, Bool.false_eq_true, reduceIte, Option.some_inj, Bool.true_eq_false, tgW, tgWs, wipe3, List.set_nil])
  exact k
theorem ok_least_minutes (D : Txt K mg base T) : Cal false P w K mg base T 8 "least_minutes" C_least_minutes :=
  cal_of (wb := w_least_minutes) D.d_least_minutes sc_least_minutes bi_least_minutes l_least_minutes (fun f cdv A outer s H E hp hr hgd => ess_cons (es_drop (ev_fnC (ok_check_ordered D) hr (by decide) (fun h => by cases h) rfl pass_cx (er_cons (ev_var (pv 0)) (er_nil)))) (ess_one (es_ret (ev_fnC (ok_raw_least D) hr (by decide) (fun h => by cases h) rfl pass_cx (er_cons (ev_var (pv 0)) (er_nil)))))) p_least_minutes
/-! ### latest_begins -/
abbrev N_latest_begins : List Str := ["dish"]
theorem sc_latest_begins : FnScope N_latest_begins ["dish"] (defScope s_latest_begins) := ⟨rfl, rfl, rfl, by decide +kernel, rfl, by decide +kernel, by decide +kernel⟩
theorem bi_latest_begins : BindsBy "latest_begins" s_latest_begins ["dish"] := fun _ _ _ _ _ _ us hl => match us, hl with | [_], _ => rfl
def w_latest_begins : WS := wSeq (wDrop (wFn C_check_ordered (wRcons (wV 0) (wRnil)))) (wRet (wCall tupleD (wCons R.wk (wFn C_raw_latest (wRcons (wV 0) (wRnil))) (wNil))))
def C_latest_begins : Ct := fun rs Q X => ∃ x, rs = [.d x] ∧ (okDish x = false → X ⟨"NoDish", none⟩) ∧ ∀ ss, x = dsD ss → GoodD ss → ((ordL ss).length ≠ ss.length → X ⟨"NoOrder", none⟩) ∧ ((ordL ss).length = ss.length → Q (.d (tupI (lLs ss))))
theorem l_latest_begins : ∀ rs Q X, C_latest_begins rs Q X → rs.length = 1 := by
  rintro rs Q X ⟨_, rfl, _⟩
  rfl
theorem p_latest_begins : ∀ rs Q X, C_latest_begins rs Q X → w_latest_begins ⟨fun _ => Q (.d .none), Q, fun _ => False, fun _ => False⟩ (startR N_latest_begins rs) X := by
  rintro rs Q X ⟨x, rfl, h1, h2⟩
  (try simp only [wIzM, wWordV, wDc, wDn, wDGet, wDIn, wDNotIn, wDPut, wRetK, wFrzK, keyOf, R.dk.injEq, R.fk.injEq, wRev, neS, wSortLL, wSetIfO, ltDD, sortedDI, wIe, isDD, isnotDD, wPar2, sumDD, eqS, reprD, wV, wC, wNil, wCons, wTup, wLst, wOp, wUn, wCall, wT, wNot, wAnd, wOr, wB, wAndV, wOrV, wNotV, wIf, wIsi, wChain, wNo, wPart, wSl, wSet, wSetO, wTg, wPnil, wPcons, wPar, wNext, wSeq, wRet, wRetO, wRetN, wIfS, wBrk, wCnt, wDrop, wFrz, wApp, wExt, wSetIx, wAugIx, wAug, wRnil, wRcons, wFn, wRaise, wWord, wRetH, wSetIxH, wCount, wIndex, wIsE, wListRg1, wListRg2, wYes, wIs, wIz, wIl, wIt, wIr1, wIr2, wSlS, wPop, wAppPop, R.wk, R.st, R.ar, R.bl, R.no, R.sq, R.slot, setsR, startR, List.map_cons, List.map_nil, List.cons_append, List.nil_append, List.length_cons, List.length_nil, List.replicate, List.getElem?_cons_zero, List.getElem?_cons_succ, Option.some.injEq, exists_eq_left', exists_eq_left, R.d.injEq, R.own.injEq, R.fr.injEq, List.set_cons_zero, List.set_cons_succ, addD, subD, mulDD, fdivD, modD, ltD, leD, gtD, geD, eqD, neD, isND, isnotND, inDD, notInDD, ixD, negD, lenD, absD, intD, min2D, max2D, listD, tupleD, slD, Nat.reduceAdd, Nat.reduceSub, Nat.add_zero, Nat.zero_add, true_and, and_true, ite_true, ite_false, if_true, if_false, Bool.false_eq_true, reduceIte, Option.some_inj, Bool.true_eq_false, tgW, tgWs, wipe3, List.set_nil, w_latest_begins, C_check_ordered])
  refine ⟨x, rfl, h1, fun ss e g => ?_⟩
  subst e
  obtain ⟨k1, k2⟩ := h2 ss rfl g
  refine ⟨k1, fun ho => ?_⟩
  have k := k2 ho
  (try simp only [wIzM, wWordV, wDc, wDn, wDGet, wDIn, wDNotIn, wDPut, wRetK, wFrzK, keyOf, R.dk.injEq, R.fk.injEq, wRev, neS, wSortLL, wSetIfO, ltDD, sortedDI, wIe, isDD, isnotDD, wPar2, sumDD, eqS, reprD, wV, wC, wNil, wCons, wTup, wLst, wOp, wUn, wCall, wT, wNot, wAnd, wOr, wB, wAndV, wOrV, wNotV, wIf, wIsi, wChain, wNo, wPart, wSl, wSet, wSetO, wTg, wPnil, wPcons, wPar, wNext, wSeq, wRet, wRetO, wRetN, wIfS, wBrk, wCnt, wDrop, wFrz, wApp, wExt, wSetIx, wAugIx, wAug, wRnil, wRcons, wFn, wRaise, wWord, wRetH, wSetIxH, wCount, wIndex, wIsE, wListRg1, wListRg2, wYes, wIs, wIz, wIl, wIt, wIr1, wIr2, wSlS, wPop, wAppPop, R.wk, R.st, R.ar, R.bl, R.no, R.sq, R.slot, setsR, startR, List.map_cons, List.map_nil, List.cons_append, List.nil_append, List.length_cons, List.length_nil, List.replicate, List.getElem?_cons_zero, List.getElem?_cons_succ, Option.some.injEq, exists_eq_left', exists_eq_left, R.d.injEq, R.own.injEq, R.fr.injEq, List.set_cons_zero, List.set_cons_succ, addD, subD, mulDD, fdivD, modD, ltD, leD, gtD, geD, eqD, neD, isND, isnotND, inDD, notInDD, ixD, negD, lenD, absD, intD, min2D, max2D, listD, tupleD, slD, Nat.reduceAdd, Nat.reduceSub, Nat.add_zero, Nat.zero_add, true_and, and_true, ite_true, ite_false, if_true, if_false, Bool.false_eq_true, reduceIte, Option.some_inj, Bool.true_eq_false, tgW, tgWs, wipe3, List.set_nil, C_raw_latest])
  refine ⟨ss, rfl, g, ho, ?_⟩
  (try simp only [wIzM, wWordV, wDc, wDn, wDGet, wDIn, wDNotIn, wDPut, wRetK, wFrzK, keyOf, R.dk.injEq, R.fk.injEq, wRev, neS, wSortLL, wSetIfO, ltDD, sortedDI, wIe, isDD, isnotDD, wPar2, sumDD, eqS, reprD, wV, wC, wNil, wCons, wTup, wLst, wOp, wUn, wCall, wT, wNot, wAnd, wOr, wB, wAndV, wOrV, wNotV, wIf, wIsi, wChain, wNo, wPart, wSl, wSet, wSetO, wTg, wPnil, wPcons, wPar, wNext, wSeq, wRet, wRetO, wRetN, wIfS, wBrk, wCnt, wDrop, wFrz, wApp, wExt, wSetIx, wAugIx, wAug, wRnil, wRcons, wFn, wRaise, wWord, wRetH, wSetIxH, wCount, wIndex, wIsE, wListRg1, wListRg2, wYes, wIs, wIz, wIl, wIt, wIr1, wIr2, wSlS, wPop, wAppPop, R.wk, R.st, R.ar, R.bl, R.no, R.sq, R.slot, setsR, startR, List.map_cons, List.map_nil, List.cons_append, List.nil_append, List.length_cons, List.length_nil, List.replicate, List.getElem?_cons_zero, List.getElem?_cons_succ, Option.some.injEq, exists_eq_left', exists_eq_left, R.d.injEq, R.own.injEq, R.fr.injEq, List.set_cons_zero, List.set_cons_succ, addD, subD, mulDD, fdivD, modD, ltD, leD, gtD, geD, eqD, neD, isND, isnotND, inDD, notInDD, ixD, negD, lenD, absD, intD, min2D, max2D, listD, tupleD, slD, Nat.reduceAdd, Nat.reduceSub, Nat.add_zero, Nat.zero_add, true_and, and_true, ite_true, ite_false, if_true, if_false, Bool.false_eq_true, reduceIte, Option.some_inj, Bool.true_eq_false, tgW, tgWs, wipe3, List.set_nil])
  exact k
theorem ok_latest_begins (D : Txt K mg base T) : Cal false P w K mg base T 8 "latest_begins" C_latest_begins :=
  cal_of (wb := w_latest_begins) D.d_latest_begins sc_latest_begins bi_latest_begins l_latest_begins (fun f cdv A outer s H E hp hr hgd => ess_cons (es_drop (ev_fnC (ok_check_ordered D) hr (by decide) (fun h => by cases h) rfl pass_cx (er_cons (ev_var (pv 0)) (er_nil)))) (ess_one (es_ret (ev_callTy cr_tuple rfl D.n_tuple bb_tuple (el_cons selW (ev_fnC (ok_raw_latest D) hr (by decide) (fun h => by cases h) rfl pass_cx (er_cons (ev_var (pv 0)) (er_nil))) (el_nil)))))) p_latest_begins
/-! ### slack -/
abbrev N_slack : List Str := ["dish", "late", "soon"]
theorem sc_slack : FnScope N_slack ["dish"] (defScope s_slack) := ⟨rfl, rfl, rfl, by decide +kernel, rfl, by decide +kernel, by decide +kernel⟩
theorem bi_slack : BindsBy "slack" s_slack ["dish"] := fun _ _ _ _ _ _ us hl => match us, hl with | [_], _ => rfl
def w_slack_1 : WS := wRet (wCall tupleD (wCons R.wk (wLc (wIz (wFn C_raw_latest (wRcons (wV 0) (wRnil))) (wFn C_raw_begins (wRcons (wV 0) (wRnil)))) (.tup [.one 1, .one 2]) wYes (wOp subD (wV 1) (wV 2)) [1, 2]) (wNil)))
def w_slack : WS := wSeq (wDrop (wFn C_check_ordered (wRcons (wV 0) (wRnil)))) (w_slack_1)
-- splitall
def sL (ss : List St) : List Int := (List.range ss.length).map fun i => lL (Wf ss) (df ss) ss.length i - lp (Wf ss) (df ss) ss.length i
def C_slack : Ct := fun rs Q X => ∃ x, rs = [.d x] ∧ (okDish x = false → X ⟨"NoDish", none⟩) ∧ ∀ ss, x = dsD ss → GoodD ss → ((ordL ss).length ≠ ss.length → X ⟨"NoOrder", none⟩) ∧ ((ordL ss).length = ss.length → Q (.d (tupI (sL ss))))
theorem l_slack : ∀ rs Q X, C_slack rs Q X → rs.length = 1 := by
  rintro rs Q X ⟨_, rfl, _⟩
  rfl
theorem pair_inj {a b c d : Int} (h : PyData.tuple [.int a, .int b] = .tuple [.int c, .int d]) : a = c ∧ b = d := by
  injection h with h
  injection h with h1 h2
  injection h2 with h2 _
  injection h1 with h1
  injection h2 with h2
  exact ⟨h1, h2⟩
theorem p_slack : ∀ rs Q X, C_slack rs Q X → w_slack ⟨fun _ => Q (.d .none), Q, fun _ => False, fun _ => False⟩ (startR N_slack rs) X := by
  rintro rs Q X ⟨x, rfl, h1, h2⟩
  (try simp only [wIzM, wWordV, wDc, wDn, wDGet, wDIn, wDNotIn, wDPut, wRetK, wFrzK, keyOf, R.dk.injEq, R.fk.injEq, wRev, neS, wSortLL, wSetIfO, ltDD, sortedDI, wIe, isDD, isnotDD, wPar2, sumDD, eqS, reprD, wV, wC, wNil, wCons, wTup, wLst, wOp, wUn, wCall, wT, wNot, wAnd, wOr, wB, wAndV, wOrV, wNotV, wIf, wIsi, wChain, wNo, wPart, wSl, wSet, wSetO, wTg, wPnil, wPcons, wPar, wNext, wSeq, wRet, wRetO, wRetN, wIfS, wBrk, wCnt, wDrop, wFrz, wApp, wExt, wSetIx, wAugIx, wAug, wRnil, wRcons, wFn, wRaise, wWord, wRetH, wSetIxH, wCount, wIndex, wIsE, wListRg1, wListRg2, wYes, wIs, wIz, wIl, wIt, wIr1, wIr2, wSlS, wPop, wAppPop, R.wk, R.st, R.ar, R.bl, R.no, R.sq, R.slot, setsR, startR, List.map_cons, List.map_nil, List.cons_append, List.nil_append, List.length_cons, List.length_nil, List.replicate, List.getElem?_cons_zero, List.getElem?_cons_succ, Option.some.injEq, exists_eq_left', exists_eq_left, R.d.injEq, R.own.injEq, R.fr.injEq, List.set_cons_zero, List.set_cons_succ, addD, subD, mulDD, fdivD, modD, ltD, leD, gtD, geD, eqD, neD, isND, isnotND, inDD, notInDD, ixD, negD, lenD, absD, intD, min2D, max2D, listD, tupleD, slD, Nat.reduceAdd, Nat.reduceSub, Nat.add_zero, Nat.zero_add, true_and, and_true, ite_true, ite_false, if_true, if_false, Bool.false_eq_true, reduceIte, Option.some_inj, Bool.true_eq_false, tgW, tgWs, wipe3, List.set_nil, w_slack, C_check_ordered])
  refine ⟨x, rfl, h1, fun ss e g => ?_⟩
  subst e
  obtain ⟨k1, k2⟩ := h2 ss rfl g
  refine ⟨k1, fun ho => ?_⟩
  have k := k2 ho
  (try simp only [wIzM, wWordV, wDc, wDn, wDGet, wDIn, wDNotIn, wDPut, wRetK, wFrzK, keyOf, R.dk.injEq, R.fk.injEq, wRev, neS, wSortLL, wSetIfO, ltDD, sortedDI, wIe, isDD, isnotDD, wPar2, sumDD, eqS, reprD, wV, wC, wNil, wCons, wTup, wLst, wOp, wUn, wCall, wT, wNot, wAnd, wOr, wB, wAndV, wOrV, wNotV, wIf, wIsi, wChain, wNo, wPart, wSl, wSet, wSetO, wTg, wPnil, wPcons, wPar, wNext, wSeq, wRet, wRetO, wRetN, wIfS, wBrk, wCnt, wDrop, wFrz, wApp, wExt, wSetIx, wAugIx, wAug, wRnil, wRcons, wFn, wRaise, wWord, wRetH, wSetIxH, wCount, wIndex, wIsE, wListRg1, wListRg2, wYes, wIs, wIz, wIl, wIt, wIr1, wIr2, wSlS, wPop, wAppPop, R.wk, R.st, R.ar, R.bl, R.no, R.sq, R.slot, setsR, startR, List.map_cons, List.map_nil, List.cons_append, List.nil_append, List.length_cons, List.length_nil, List.replicate, List.getElem?_cons_zero, List.getElem?_cons_succ, Option.some.injEq, exists_eq_left', exists_eq_left, R.d.injEq, R.own.injEq, R.fr.injEq, List.set_cons_zero, List.set_cons_succ, addD, subD, mulDD, fdivD, modD, ltD, leD, gtD, geD, eqD, neD, isND, isnotND, inDD, notInDD, ixD, negD, lenD, absD, intD, min2D, max2D, listD, tupleD, slD, Nat.reduceAdd, Nat.reduceSub, Nat.add_zero, Nat.zero_add, true_and, and_true, ite_true, ite_false, if_true, if_false, Bool.false_eq_true, reduceIte, Option.some_inj, Bool.true_eq_false, tgW, tgWs, wipe3, List.set_nil, w_slack_1, wLc, C_raw_latest])
  refine ⟨ss, rfl, g, ho, ?_⟩
  (try simp only [wIzM, wWordV, wDc, wDn, wDGet, wDIn, wDNotIn, wDPut, wRetK, wFrzK, keyOf, R.dk.injEq, R.fk.injEq, wRev, neS, wSortLL, wSetIfO, ltDD, sortedDI, wIe, isDD, isnotDD, wPar2, sumDD, eqS, reprD, wV, wC, wNil, wCons, wTup, wLst, wOp, wUn, wCall, wT, wNot, wAnd, wOr, wB, wAndV, wOrV, wNotV, wIf, wIsi, wChain, wNo, wPart, wSl, wSet, wSetO, wTg, wPnil, wPcons, wPar, wNext, wSeq, wRet, wRetO, wRetN, wIfS, wBrk, wCnt, wDrop, wFrz, wApp, wExt, wSetIx, wAugIx, wAug, wRnil, wRcons, wFn, wRaise, wWord, wRetH, wSetIxH, wCount, wIndex, wIsE, wListRg1, wListRg2, wYes, wIs, wIz, wIl, wIt, wIr1, wIr2, wSlS, wPop, wAppPop, R.wk, R.st, R.ar, R.bl, R.no, R.sq, R.slot, setsR, startR, List.map_cons, List.map_nil, List.cons_append, List.nil_append, List.length_cons, List.length_nil, List.replicate, List.getElem?_cons_zero, List.getElem?_cons_succ, Option.some.injEq, exists_eq_left', exists_eq_left, R.d.injEq, R.own.injEq, R.fr.injEq, List.set_cons_zero, List.set_cons_succ, addD, subD, mulDD, fdivD, modD, ltD, leD, gtD, geD, eqD, neD, isND, isnotND, inDD, notInDD, ixD, negD, lenD, absD, intD, min2D, max2D, listD, tupleD, slD, Nat.reduceAdd, Nat.reduceSub, Nat.add_zero, Nat.zero_add, true_and, and_true, ite_true, ite_false, if_true, if_false, Bool.false_eq_true, reduceIte, Option.some_inj, Bool.true_eq_false, tgW, tgWs, wipe3, List.set_nil, C_raw_begins])
  refine ⟨ss, rfl, g, ho, ?_⟩
  (try simp only [wIzM, wWordV, wDc, wDn, wDGet, wDIn, wDNotIn, wDPut, wRetK, wFrzK, keyOf, R.dk.injEq, R.fk.injEq, wRev, neS, wSortLL, wSetIfO, ltDD, sortedDI, wIe, isDD, isnotDD, wPar2, sumDD, eqS, reprD, wV, wC, wNil, wCons, wTup, wLst, wOp, wUn, wCall, wT, wNot, wAnd, wOr, wB, wAndV, wOrV, wNotV, wIf, wIsi, wChain, wNo, wPart, wSl, wSet, wSetO, wTg, wPnil, wPcons, wPar, wNext, wSeq, wRet, wRetO, wRetN, wIfS, wBrk, wCnt, wDrop, wFrz, wApp, wExt, wSetIx, wAugIx, wAug, wRnil, wRcons, wFn, wRaise, wWord, wRetH, wSetIxH, wCount, wIndex, wIsE, wListRg1, wListRg2, wYes, wIs, wIz, wIl, wIt, wIr1, wIr2, wSlS, wPop, wAppPop, R.wk, R.st, R.ar, R.bl, R.no, R.sq, R.slot, setsR, startR, List.map_cons, List.map_nil, List.cons_append, List.nil_append, List.length_cons, List.length_nil, List.replicate, List.getElem?_cons_zero, List.getElem?_cons_succ, Option.some.injEq, exists_eq_left', exists_eq_left, R.d.injEq, R.own.injEq, R.fr.injEq, List.set_cons_zero, List.set_cons_succ, addD, subD, mulDD, fdivD, modD, ltD, leD, gtD, geD, eqD, neD, isND, isnotND, inDD, notInDD, ixD, negD, lenD, absD, intD, min2D, max2D, listD, tupleD, slD, Nat.reduceAdd, Nat.reduceSub, Nat.add_zero, Nat.zero_add, true_and, and_true, ite_true, ite_false, if_true, if_false, Bool.false_eq_true, reduceIte, Option.some_inj, Bool.true_eq_false, tgW, tgWs, wipe3, List.set_nil])
  rw [lLs, bL, map_int, map_int, zip_rr]
  refine lc_mapm (α := Nat) (fun i => .tuple [.int (lL (Wf ss) (df ss) ss.length i), .int (lp (Wf ss) (df ss) ss.length i)]) (fun i => .int (lL (Wf ss) (df ss) ss.length i - lp (Wf ss) (df ss) ss.length i)) _ (fun a b e => ?_) (fun i hi k hk => ?_) ?_
  · obtain ⟨e1, e2⟩ := pair_inj e
    show PyData.int (lL (Wf ss) (df ss) ss.length a - lp (Wf ss) (df ss) ss.length a) = _
    rw [e1, e2]
  · (try simp only [wIzM, wWordV, wDc, wDn, wDGet, wDIn, wDNotIn, wDPut, wRetK, wFrzK, keyOf, R.dk.injEq, R.fk.injEq, wRev, neS, wSortLL, wSetIfO, ltDD, sortedDI, wIe, isDD, isnotDD, wPar2, sumDD, eqS, reprD, wV, wC, wNil, wCons, wTup, wLst, wOp, wUn, wCall, wT, wNot, wAnd, wOr, wB, wAndV, wOrV, wNotV, wIf, wIsi, wChain, wNo, wPart, wSl, wSet, wSetO, wTg, wPnil, wPcons, wPar, wNext, wSeq, wRet, wRetO, wRetN, wIfS, wBrk, wCnt, wDrop, wFrz, wApp, wExt, wSetIx, wAugIx, wAug, wRnil, wRcons, wFn, wRaise, wWord, wRetH, wSetIxH, wCount, wIndex, wIsE, wListRg1, wListRg2, wYes, wIs, wIz, wIl, wIt, wIr1, wIr2, wSlS, wPop, wAppPop, R.wk, R.st, R.ar, R.bl, R.no, R.sq, R.slot, setsR, startR, List.map_cons, List.map_nil, List.cons_append, List.nil_append, List.length_cons, List.length_nil, List.replicate, List.getElem?_cons_zero, List.getElem?_cons_succ, Option.some.injEq, exists_eq_left', exists_eq_left, R.d.injEq, R.own.injEq, R.fr.injEq, List.set_cons_zero, List.set_cons_succ, addD, subD, mulDD, fdivD, modD, ltD, leD, gtD, geD, eqD, neD, isND, isnotND, inDD, notInDD, ixD, negD, lenD, absD, intD, min2D, max2D, listD, tupleD, slD, Nat.reduceAdd, Nat.reduceSub, Nat.add_zero, Nat.zero_add, true_and, and_true, ite_true, ite_false, if_true, if_false, Bool.false_eq_true, reduceIte, Option.some_inj, Bool.true_eq_false, tgW, tgWs, wipe3, List.set_nil])
    exact hk
  · (try simp only [wIzM, wWordV, wDc, wDn, wDGet, wDIn, wDNotIn, wDPut, wRetK, wFrzK, keyOf, R.dk.injEq, R.fk.injEq, wRev, neS, wSortLL, wSetIfO, ltDD, sortedDI, wIe, isDD, isnotDD, wPar2, sumDD, eqS, reprD, wV, wC, wNil, wCons, wTup, wLst, wOp, wUn, wCall, wT, wNot, wAnd, wOr, wB, wAndV, wOrV, wNotV, wIf, wIsi, wChain, wNo, wPart, wSl, wSet, wSetO, wTg, wPnil, wPcons, wPar, wNext, wSeq, wRet, wRetO, wRetN, wIfS, wBrk, wCnt, wDrop, wFrz, wApp, wExt, wSetIx, wAugIx, wAug, wRnil, wRcons, wFn, wRaise, wWord, wRetH, wSetIxH, wCount, wIndex, wIsE, wListRg1, wListRg2, wYes, wIs, wIz, wIl, wIt, wIr1, wIr2, wSlS, wPop, wAppPop, R.wk, R.st, R.ar, R.bl, R.no, R.sq, R.slot, setsR, startR, List.map_cons, List.map_nil, List.cons_append, List.nil_append, List.length_cons, List.length_nil, List.replicate, List.getElem?_cons_zero, List.getElem?_cons_succ, Option.some.injEq, exists_eq_left', exists_eq_left, R.d.injEq, R.own.injEq, R.fr.injEq, List.set_cons_zero, List.set_cons_succ, addD, subD, mulDD, fdivD, modD, ltD, leD, gtD, geD, eqD, neD, isND, isnotND, inDD, notInDD, ixD, negD, lenD, absD, intD, min2D, max2D, listD, tupleD, slD, Nat.reduceAdd, Nat.reduceSub, Nat.add_zero, Nat.zero_add, true_and, and_true, ite_true, ite_false, if_true, if_false, Bool.false_eq_true, reduceIte, Option.some_inj, Bool.true_eq_false, tgW, tgWs, wipe3, List.set_nil])
    rw [sL, tupI, map_int] at k
    exact k
theorem ok_slack (D : Txt K mg base T) : Cal false P w K mg base T 8 "slack" C_slack :=
  cal_of (wb := w_slack) D.d_slack sc_slack bi_slack l_slack (fun f cdv A outer s H E hp hr hgd => ess_cons (es_drop (ev_fnC (ok_check_ordered D) hr (by decide) (fun h => by cases h) rfl pass_cx (er_cons (ev_var (pv 0)) (er_nil)))) (ess_one (es_ret (ev_callTy cr_tuple rfl D.n_tuple bb_tuple (el_cons selW (ev_lc (own := [("late", 1), ("soon", 2)]) (g := .tup [.one 1, .one 2]) rfl sc_slack.nd (ei_zip rfl D.n_zip (ev_fnC (ok_raw_latest D) hr (by decide) (fun h => by cases h) rfl pass_cx (er_cons (ev_var (pv 0)) (er_nil))) (ev_fnC (ok_raw_begins D) hr (by decide) (fun h => by cases h) rfl pass_cx (er_cons (ev_var (pv 0)) (er_nil)))) (blkOk_by (N := N_slack) (sc := defScope s_slack) (by decide +kernel)) (by decide) (fun _ _ _ _ _ => pg_tup rfl (pgs_cons (pg_name (i := 1) sc_slack.nd rfl (Or.inl rfl)) (pgs_cons (pg_name (i := 2) sc_slack.nd rfl (Or.inl rfl)) (pgs_nil)))) (fun _ _ _ _ _ => eb_yes) (fun _ _ _ _ _ => ev_op op_subD (ev_var (pv 1)) (ev_var (pv 2)))) (el_nil)))))) p_slack
/-! ### _law_hand -/
abbrev N_law_hand : List Str := ["script", "cells", "cell"]
theorem sc_law_hand : FnScope N_law_hand ["script"] (defScope s_law_hand) := ⟨rfl, rfl, rfl, by decide +kernel, rfl, by decide +kernel, by decide +kernel⟩
theorem bi_law_hand : BindsBy "_law_hand" s_law_hand ["script"] := fun _ _ _ _ _ _ us hl => match us, hl with | [_], _ => rfl
def w_law_hand : WS := wSeq (wSet 1 (wLc (wIs (wSlS 0 wNo (wPart (wC (.int 63))))) (.one 2) wYes (wCall absD (wCons R.wk (wCall intD (wCons R.wk (wV 2) (wNil))) (wNil))) [2])) (wRet (wLst (wCons R.st (wV 1) (wCons R.st (wC (.int 0)) (wCons R.st (wC (.int 0)) (wCons R.st (wOp addD (wC (.int 97)) (wOp mulDD (wC (.int 13)) (wCall lenD (wCons R.wk (wV 1) (wNil))))) (wCons R.st (wC (.int 0)) (wNil))))))))
abbrev L_hand : Nat := 4
theorem p_law_hand : ∀ (ns : List Int), ns.length ≤ 63 → w_law_hand { nx := fun _ => False, rt := fun r => ∃ ms js : List Int, r = .fr (.list (ms.map .int) :: js.map .int) ∧ js.length = L_hand ∧ ∀ j ∈ js, 0 ≤ j } (startR N_law_hand [.scr ns]) noX := by
  intro ns hn
  (try simp only [wIzM, wWordV, wDc, wDn, wDGet, wDIn, wDNotIn, wDPut, wRetK, wFrzK, keyOf, R.dk.injEq, R.fk.injEq, wRev, neS, wSortLL, wSetIfO, ltDD, sortedDI, wIe, isDD, isnotDD, wPar2, sumDD, eqS, reprD, wV, wC, wNil, wCons, wTup, wLst, wOp, wUn, wCall, wT, wNot, wAnd, wOr, wB, wAndV, wOrV, wNotV, wIf, wIsi, wChain, wNo, wPart, wSl, wSet, wSetO, wTg, wPnil, wPcons, wPar, wNext, wSeq, wRet, wRetO, wRetN, wIfS, wBrk, wCnt, wDrop, wFrz, wApp, wExt, wSetIx, wAugIx, wAug, wRnil, wRcons, wFn, wRaise, wWord, wRetH, wSetIxH, wCount, wIndex, wIsE, wListRg1, wListRg2, wYes, wIs, wIz, wIl, wIt, wIr1, wIr2, wSlS, wPop, wAppPop, R.wk, R.st, R.ar, R.bl, R.no, R.sq, R.slot, setsR, startR, List.map_cons, List.map_nil, List.cons_append, List.nil_append, List.length_cons, List.length_nil, List.replicate, List.getElem?_cons_zero, List.getElem?_cons_succ, Option.some.injEq, exists_eq_left', exists_eq_left, R.d.injEq, R.own.injEq, R.fr.injEq, List.set_cons_zero, List.set_cons_succ, addD, subD, mulDD, fdivD, modD, ltD, leD, gtD, geD, eqD, neD, isND, isnotND, inDD, notInDD, ixD, negD, lenD, absD, intD, min2D, max2D, listD, tupleD, slD, Nat.reduceAdd, Nat.reduceSub, Nat.add_zero, Nat.zero_add, true_and, and_true, ite_true, ite_false, if_true, if_false, Bool.false_eq_true, reduceIte, Option.some_inj, Bool.true_eq_false, tgW, tgWs, wipe3, List.set_nil, w_law_hand, wLc, R.scr.injEq])
  refine lc_map (fun x => match x with | .int i => .int (if i < 0 then -i else i) | _ => .none) _ (fun x hx k hk => ?_) ?_
  · obtain ⟨i, _, rfl⟩ := List.mem_map.mp hx
    (try simp only [wIzM, wWordV, wDc, wDn, wDGet, wDIn, wDNotIn, wDPut, wRetK, wFrzK, keyOf, R.dk.injEq, R.fk.injEq, wRev, neS, wSortLL, wSetIfO, ltDD, sortedDI, wIe, isDD, isnotDD, wPar2, sumDD, eqS, reprD, wV, wC, wNil, wCons, wTup, wLst, wOp, wUn, wCall, wT, wNot, wAnd, wOr, wB, wAndV, wOrV, wNotV, wIf, wIsi, wChain, wNo, wPart, wSl, wSet, wSetO, wTg, wPnil, wPcons, wPar, wNext, wSeq, wRet, wRetO, wRetN, wIfS, wBrk, wCnt, wDrop, wFrz, wApp, wExt, wSetIx, wAugIx, wAug, wRnil, wRcons, wFn, wRaise, wWord, wRetH, wSetIxH, wCount, wIndex, wIsE, wListRg1, wListRg2, wYes, wIs, wIz, wIl, wIt, wIr1, wIr2, wSlS, wPop, wAppPop, R.wk, R.st, R.ar, R.bl, R.no, R.sq, R.slot, setsR, startR, List.map_cons, List.map_nil, List.cons_append, List.nil_append, List.length_cons, List.length_nil, List.replicate, List.getElem?_cons_zero, List.getElem?_cons_succ, Option.some.injEq, exists_eq_left', exists_eq_left, R.d.injEq, R.own.injEq, R.fr.injEq, List.set_cons_zero, List.set_cons_succ, addD, subD, mulDD, fdivD, modD, ltD, leD, gtD, geD, eqD, neD, isND, isnotND, inDD, notInDD, ixD, negD, lenD, absD, intD, min2D, max2D, listD, tupleD, slD, Nat.reduceAdd, Nat.reduceSub, Nat.add_zero, Nat.zero_add, true_and, and_true, ite_true, ite_false, if_true, if_false, Bool.false_eq_true, reduceIte, Option.some_inj, Bool.true_eq_false, tgW, tgWs, wipe3, List.set_nil])
    exact hk
  · (try simp only [wIzM, wWordV, wDc, wDn, wDGet, wDIn, wDNotIn, wDPut, wRetK, wFrzK, keyOf, R.dk.injEq, R.fk.injEq, wRev, neS, wSortLL, wSetIfO, ltDD, sortedDI, wIe, isDD, isnotDD, wPar2, sumDD, eqS, reprD, wV, wC, wNil, wCons, wTup, wLst, wOp, wUn, wCall, wT, wNot, wAnd, wOr, wB, wAndV, wOrV, wNotV, wIf, wIsi, wChain, wNo, wPart, wSl, wSet, wSetO, wTg, wPnil, wPcons, wPar, wNext, wSeq, wRet, wRetO, wRetN, wIfS, wBrk, wCnt, wDrop, wFrz, wApp, wExt, wSetIx, wAugIx, wAug, wRnil, wRcons, wFn, wRaise, wWord, wRetH, wSetIxH, wCount, wIndex, wIsE, wListRg1, wListRg2, wYes, wIs, wIz, wIl, wIt, wIr1, wIr2, wSlS, wPop, wAppPop, R.wk, R.st, R.ar, R.bl, R.no, R.sq, R.slot, setsR, startR, List.map_cons, List.map_nil, List.cons_append, List.nil_append, List.length_cons, List.length_nil, List.replicate, List.getElem?_cons_zero, List.getElem?_cons_succ, Option.some.injEq, exists_eq_left', exists_eq_left, R.d.injEq, R.own.injEq, R.fr.injEq, List.set_cons_zero, List.set_cons_succ, addD, subD, mulDD, fdivD, modD, ltD, leD, gtD, geD, eqD, neD, isND, isnotND, inDD, notInDD, ixD, negD, lenD, absD, intD, min2D, max2D, listD, tupleD, slD, Nat.reduceAdd, Nat.reduceSub, Nat.add_zero, Nat.zero_add, true_and, and_true, ite_true, ite_false, if_true, if_false, Bool.false_eq_true, reduceIte, Option.some_inj, Bool.true_eq_false, tgW, tgWs, wipe3, List.set_nil])
    refine ⟨.inl (.inl ⟨by decide, by decide⟩), (cut ns none (some 63)).map (fun i => if i < 0 then -i else i), [0, 0, 97 + 13 * ((cut ns none (some 63)).length : Int), 0], ?_, rfl, fun j hj => ?_⟩
    · simp only [List.map_map, List.map_cons, List.map_nil, List.length_map]
      rfl
    · simp at hj
      omega
theorem ok_law_hand (D : Txt K mg base T) : Cal false P w K mg base T 1 "_law_hand" (C_hand L_hand) :=
  cal_hand (wb := w_law_hand) L_hand (by decide) D.d_law_hand sc_law_hand bi_law_hand (fun f cdv A outer s H E hp hr => ess_cons (es_setLc (i := 1) (own := [("cell", 2)]) (g := .one 2) rfl sc_law_hand.nd rfl rfl (sw_true rfl rfl rfl (by decide +kernel)) (ei_seq (ev_slS (pv 0) eo_no (eo_part (ev_int)))) (blkOk_by (N := N_law_hand) (sc := defScope s_law_hand) (by decide +kernel)) (by decide) (fun _ _ _ _ _ => pg_name (i := 2) sc_law_hand.nd rfl (Or.inl rfl)) (fun _ _ _ _ _ => eb_yes) (fun _ _ _ _ _ => ev_callB cr_abs rfl D.n_abs bb_abs (el_cons selW (ev_callTy cr_int rfl D.n_int bb_int (el_cons selW (ev_var (pv 2)) (el_nil))) (el_nil)))) (ess_one (es_ret (ev_lst (el_cons selS (ev_var (pv 1)) (el_cons selS (ev_int) (el_cons selS (ev_int) (el_cons selS (ev_op op_addD (ev_int) (ev_op op_mulDD (ev_int) (ev_callB cr_len rfl D.n_len bb_len (el_cons selW (ev_var (pv 1)) (el_nil))))) (el_cons selS (ev_int) (el_nil)))))))))) p_law_hand
abbrev C_law_hand : Ct := C_hand L_hand
/-! ### _law_draw -/
abbrev N_law_draw : List Str := ["hand", "many", "cell", "digit", "number"]
theorem sc_law_draw : FnScope N_law_draw ["hand", "many"] (defScope s_law_draw) := ⟨rfl, rfl, rfl, by decide +kernel, rfl, by decide +kernel, by decide +kernel⟩
theorem bi_law_draw : BindsBy "_law_draw" s_law_draw ["hand", "many"] := fun _ _ _ _ _ _ us hl => match us, hl with | [_, _], _ => rfl
def w_law_draw_6 : WS := wRetH (wOp modD (wCall intD (wCons R.wk (wOp fdivD (wV 4) (wC (.int 16))) (wNil))) (wV 1))
def w_law_draw_5 : WS := wSeq (wSet 4 (wOp modD (wCall intD (wCons R.wk (wOp mulDD (wV 4) (wOp addD (wOp fdivD (wV 4) (wC (.int 2003))) (wC (.int 40014)))) (wNil))) (wC (.int 2147483563)))) (w_law_draw_6)
def w_law_draw_4 : WS := wSeq (wSet 4 (wOp modD (wCall intD (wCons R.wk (wOp mulDD (wV 4) (wOp addD (wOp fdivD (wV 4) (wC (.int 1009))) (wC (.int 69621)))) (wNil))) (wC (.int 2147483647)))) (w_law_draw_5)
def w_law_draw_3 : WS := wSeq (wSet 4 (wOp modD (wCall intD (wCons R.wk (wOp mulDD (wCall intD (wCons R.wk (wOp addD (wOp ixD (wV 0) (wC (.int 3))) (wOp mulDD (wC (.int 7919)) (wOp ixD (wV 0) (wC (.int 4))))) (wNil))) (wC (.int 48271))) (wNil))) (wC (.int 2147483647)))) (w_law_draw_4)
def w_law_draw_2 : WS := wSeq (wSetIxH (wC (.int 4)) (wOp addD (wOp ixD (wV 0) (wC (.int 4))) (wC (.int 1)))) (w_law_draw_3)
def w_law_draw_1 : WS := wSeq (wIfS (wT (wOp gtD (wOp ixD (wV 0) (wC (.int 2))) (wC (.int 0)))) (wSeq (wSet 3 (wOp modD (wCall intD (wCons R.wk (wOp ixD (wV 0) (wC (.int 2))) (wNil))) (wV 1))) (wSeq (wSetIxH (wC (.int 2)) (wOp fdivD (wOp ixD (wV 0) (wC (.int 2))) (wV 1))) (wRetH (wV 3)))) (wNext)) (w_law_draw_2)
def w_law_draw : WS := wSeq (wIfS (wAnd (wT (wOp eqD (wOp ixD (wV 0) (wC (.int 2))) (wC (.int 0)))) (wT (wOp ltDD (wOp ixD (wV 0) (wC (.int 1))) (wCall lenD (wCons R.wk (wOp ixD (wV 0) (wC (.int 0))) (wNil)))))) (wSeq (wSet 2 (wOp ixD (wOp ixD (wV 0) (wC (.int 0))) (wOp ixD (wV 0) (wC (.int 1))))) (wSeq (wSetIxH (wC (.int 1)) (wOp addD (wOp ixD (wV 0) (wC (.int 1))) (wC (.int 1)))) (wSeq (wSetIxH (wC (.int 3)) (wOp modD (wCall intD (wCons R.wk (wOp addD (wOp addD (wOp mulDD (wOp ixD (wV 0) (wC (.int 3))) (wC (.int 69621))) (wOp mulDD (wV 2) (wC (.int 40692)))) (wC (.int 31))) (wNil))) (wC (.int 2147483629)))) (wIfS (wT (wOp geD (wV 2) (wOp powD (wC (.int 10)) (wC (.int 18))))) (wSetIxH (wC (.int 2)) (wV 2)) (wNext))))) (wNext)) (w_law_draw_1)
def drawD (ns : List Int) (m : Int) : End3 := { nx := fun _ => False, rt := fun r => ∃ n : Int, r = .d (.int n) ∧ 0 ≤ n ∧ n < m, bk := fun ρ => ∃ js : List Int, js.length = L_hand ∧ (∀ i ∈ js, 0 ≤ i) ∧ ρ[0]? = some (some (.own (.list (ns.map .int) :: js.map .int))) }
theorem small_mul {i j : Int} (h : -(2 ^ 64) < i ∧ i < 2 ^ 64) : CMul i j ∨ CMulW i j := .inl (.inl h)
theorem small_mul2 {i j : Int} (h : -(2 ^ 64) < j ∧ j < 2 ^ 64) : CMul i j ∨ CMulW i j := .inl (.inr h)
theorem mod_fits {i m : Int} (h : 0 < m) (h2 : m < 2 ^ 64) : -(2 ^ 64) < i % m ∧ i % m < 2 ^ 64 := by
  have a := Int.emod_nonneg i (show m ≠ 0 by omega)
  have b := Int.emod_lt_of_pos i h
  omega
theorem small_div {i j : Int} (h : 0 < j) (h2 : j < 1073741824) : CDiv i j ∨ CDivW i j := .inl ⟨h, h2⟩
abbrev handL (ns : List Int) (i1 i2 i3 i4 : Int) : R := .own [.list (ns.map .int), .int i1, .int i2, .int i3, .int i4]
theorem draw_bk {ns : List Int} {m i1 i2 i3 i4 : Int} {r : Env3} (h : 0 ≤ i1 ∧ 0 ≤ i2 ∧ 0 ≤ i3 ∧ 0 ≤ i4) : (drawD ns m).bk (some (handL ns i1 i2 i3 i4) :: r) :=
  ⟨[i1, i2, i3, i4], rfl, fun i hi => by simp at hi; omega, rfl⟩
theorem ix5_1 : ixN 5 1 = some 1 := by decide
theorem ix5_2 : ixN 5 2 = some 2 := by decide
theorem ix5_3 : ixN 5 3 = some 3 := by decide
theorem ix5_4 : ixN 5 4 = some 4 := by decide
theorem p_draw_2 {ns : List Int} {m i1 i2 i3 i4 : Int} {c d n : Option R} (h : 0 ≤ i1 ∧ 0 ≤ i2 ∧ 0 ≤ i3 ∧ 0 ≤ i4) (m0 : 0 < m) (m1 : m < 1073741824) :
    w_law_draw_2 (drawD ns m) [some (handL ns i1 i2 i3 i4), some (.d (.int m)), c, d, n] noX := by
  (try simp only [wIzM, wWordV, wDc, wDn, wDGet, wDIn, wDNotIn, wDPut, wRetK, wFrzK, keyOf, R.dk.injEq, R.fk.injEq, wRev, neS, wSortLL, wSetIfO, ltDD, sortedDI, wIe, isDD, isnotDD, wPar2, sumDD, eqS, reprD, wV, wC, wNil, wCons, wTup, wLst, wOp, wUn, wCall, wT, wNot, wAnd, wOr, wB, wAndV, wOrV, wNotV, wIf, wIsi, wChain, wNo, wPart, wSl, wSet, wSetO, wTg, wPnil, wPcons, wPar, wNext, wSeq, wRet, wRetO, wRetN, wIfS, wBrk, wCnt, wDrop, wFrz, wApp, wExt, wSetIx, wAugIx, wAug, wRnil, wRcons, wFn, wRaise, wWord, wRetH, wSetIxH, wCount, wIndex, wIsE, wListRg1, wListRg2, wYes, wIs, wIz, wIl, wIt, wIr1, wIr2, wSlS, wPop, wAppPop, R.wk, R.st, R.ar, R.bl, R.no, R.sq, R.slot, setsR, startR, List.map_cons, List.map_nil, List.cons_append, List.nil_append, List.length_cons, List.length_nil, List.replicate, List.getElem?_cons_zero, List.getElem?_cons_succ, Option.some.injEq, exists_eq_left', exists_eq_left, R.d.injEq, R.own.injEq, R.fr.injEq, List.set_cons_zero, List.set_cons_succ, addD, subD, mulDD, fdivD, modD, ltD, leD, gtD, geD, eqD, neD, isND, isnotND, inDD, notInDD, ixD, negD, lenD, absD, intD, min2D, max2D, listD, tupleD, slD, Nat.reduceAdd, Nat.reduceSub, Nat.add_zero, Nat.zero_add, true_and, and_true, ite_true, ite_false, if_true, if_false, Bool.false_eq_true, reduceIte, Option.some_inj, Bool.true_eq_false, tgW, tgWs, wipe3, List.set_nil, w_law_draw_2, at0, at1, at2, at3, at4, handL])
  refine ⟨3, ix5_4, ?_⟩
  (try simp only [wIzM, wWordV, wDc, wDn, wDGet, wDIn, wDNotIn, wDPut, wRetK, wFrzK, keyOf, R.dk.injEq, R.fk.injEq, wRev, neS, wSortLL, wSetIfO, ltDD, sortedDI, wIe, isDD, isnotDD, wPar2, sumDD, eqS, reprD, wV, wC, wNil, wCons, wTup, wLst, wOp, wUn, wCall, wT, wNot, wAnd, wOr, wB, wAndV, wOrV, wNotV, wIf, wIsi, wChain, wNo, wPart, wSl, wSet, wSetO, wTg, wPnil, wPcons, wPar, wNext, wSeq, wRet, wRetO, wRetN, wIfS, wBrk, wCnt, wDrop, wFrz, wApp, wExt, wSetIx, wAugIx, wAug, wRnil, wRcons, wFn, wRaise, wWord, wRetH, wSetIxH, wCount, wIndex, wIsE, wListRg1, wListRg2, wYes, wIs, wIz, wIl, wIt, wIr1, wIr2, wSlS, wPop, wAppPop, R.wk, R.st, R.ar, R.bl, R.no, R.sq, R.slot, setsR, startR, List.map_cons, List.map_nil, List.cons_append, List.nil_append, List.length_cons, List.length_nil, List.replicate, List.getElem?_cons_zero, List.getElem?_cons_succ, Option.some.injEq, exists_eq_left', exists_eq_left, R.d.injEq, R.own.injEq, R.fr.injEq, List.set_cons_zero, List.set_cons_succ, addD, subD, mulDD, fdivD, modD, ltD, leD, gtD, geD, eqD, neD, isND, isnotND, inDD, notInDD, ixD, negD, lenD, absD, intD, min2D, max2D, listD, tupleD, slD, Nat.reduceAdd, Nat.reduceSub, Nat.add_zero, Nat.zero_add, true_and, and_true, ite_true, ite_false, if_true, if_false, Bool.false_eq_true, reduceIte, Option.some_inj, Bool.true_eq_false, tgW, tgWs, wipe3, List.set_nil, w_law_draw_3, at0, at1, at2, at3, at4])
  refine ⟨small_mul (by decide), small_mul2 (by decide), by decide, ?_⟩
  generalize (i3 + 7919 * (i4 + 1)) * 48271 = a
  (try simp only [wIzM, wWordV, wDc, wDn, wDGet, wDIn, wDNotIn, wDPut, wRetK, wFrzK, keyOf, R.dk.injEq, R.fk.injEq, wRev, neS, wSortLL, wSetIfO, ltDD, sortedDI, wIe, isDD, isnotDD, wPar2, sumDD, eqS, reprD, wV, wC, wNil, wCons, wTup, wLst, wOp, wUn, wCall, wT, wNot, wAnd, wOr, wB, wAndV, wOrV, wNotV, wIf, wIsi, wChain, wNo, wPart, wSl, wSet, wSetO, wTg, wPnil, wPcons, wPar, wNext, wSeq, wRet, wRetO, wRetN, wIfS, wBrk, wCnt, wDrop, wFrz, wApp, wExt, wSetIx, wAugIx, wAug, wRnil, wRcons, wFn, wRaise, wWord, wRetH, wSetIxH, wCount, wIndex, wIsE, wListRg1, wListRg2, wYes, wIs, wIz, wIl, wIt, wIr1, wIr2, wSlS, wPop, wAppPop, R.wk, R.st, R.ar, R.bl, R.no, R.sq, R.slot, setsR, startR, List.map_cons, List.map_nil, List.cons_append, List.nil_append, List.length_cons, List.length_nil, List.replicate, List.getElem?_cons_zero, List.getElem?_cons_succ, Option.some.injEq, exists_eq_left', exists_eq_left, R.d.injEq, R.own.injEq, R.fr.injEq, List.set_cons_zero, List.set_cons_succ, addD, subD, mulDD, fdivD, modD, ltD, leD, gtD, geD, eqD, neD, isND, isnotND, inDD, notInDD, ixD, negD, lenD, absD, intD, min2D, max2D, listD, tupleD, slD, Nat.reduceAdd, Nat.reduceSub, Nat.add_zero, Nat.zero_add, true_and, and_true, ite_true, ite_false, if_true, if_false, Bool.false_eq_true, reduceIte, Option.some_inj, Bool.true_eq_false, tgW, tgWs, wipe3, List.set_nil, w_law_draw_4])
  refine ⟨small_div (by decide) (by decide), small_mul (mod_fits (by decide) (by decide)), by decide, ?_⟩
  generalize a % 2147483647 * (a % 2147483647 / 1009 + 69621) = b
  (try simp only [wIzM, wWordV, wDc, wDn, wDGet, wDIn, wDNotIn, wDPut, wRetK, wFrzK, keyOf, R.dk.injEq, R.fk.injEq, wRev, neS, wSortLL, wSetIfO, ltDD, sortedDI, wIe, isDD, isnotDD, wPar2, sumDD, eqS, reprD, wV, wC, wNil, wCons, wTup, wLst, wOp, wUn, wCall, wT, wNot, wAnd, wOr, wB, wAndV, wOrV, wNotV, wIf, wIsi, wChain, wNo, wPart, wSl, wSet, wSetO, wTg, wPnil, wPcons, wPar, wNext, wSeq, wRet, wRetO, wRetN, wIfS, wBrk, wCnt, wDrop, wFrz, wApp, wExt, wSetIx, wAugIx, wAug, wRnil, wRcons, wFn, wRaise, wWord, wRetH, wSetIxH, wCount, wIndex, wIsE, wListRg1, wListRg2, wYes, wIs, wIz, wIl, wIt, wIr1, wIr2, wSlS, wPop, wAppPop, R.wk, R.st, R.ar, R.bl, R.no, R.sq, R.slot, setsR, startR, List.map_cons, List.map_nil, List.cons_append, List.nil_append, List.length_cons, List.length_nil, List.replicate, List.getElem?_cons_zero, List.getElem?_cons_succ, Option.some.injEq, exists_eq_left', exists_eq_left, R.d.injEq, R.own.injEq, R.fr.injEq, List.set_cons_zero, List.set_cons_succ, addD, subD, mulDD, fdivD, modD, ltD, leD, gtD, geD, eqD, neD, isND, isnotND, inDD, notInDD, ixD, negD, lenD, absD, intD, min2D, max2D, listD, tupleD, slD, Nat.reduceAdd, Nat.reduceSub, Nat.add_zero, Nat.zero_add, true_and, and_true, ite_true, ite_false, if_true, if_false, Bool.false_eq_true, reduceIte, Option.some_inj, Bool.true_eq_false, tgW, tgWs, wipe3, List.set_nil, w_law_draw_5])
  refine ⟨small_div (by decide) (by decide), small_mul (mod_fits (by decide) (by decide)), by decide, ?_⟩
  generalize b % 2147483647 * (b % 2147483647 / 2003 + 40014) = e
  (try simp only [wIzM, wWordV, wDc, wDn, wDGet, wDIn, wDNotIn, wDPut, wRetK, wFrzK, keyOf, R.dk.injEq, R.fk.injEq, wRev, neS, wSortLL, wSetIfO, ltDD, sortedDI, wIe, isDD, isnotDD, wPar2, sumDD, eqS, reprD, wV, wC, wNil, wCons, wTup, wLst, wOp, wUn, wCall, wT, wNot, wAnd, wOr, wB, wAndV, wOrV, wNotV, wIf, wIsi, wChain, wNo, wPart, wSl, wSet, wSetO, wTg, wPnil, wPcons, wPar, wNext, wSeq, wRet, wRetO, wRetN, wIfS, wBrk, wCnt, wDrop, wFrz, wApp, wExt, wSetIx, wAugIx, wAug, wRnil, wRcons, wFn, wRaise, wWord, wRetH, wSetIxH, wCount, wIndex, wIsE, wListRg1, wListRg2, wYes, wIs, wIz, wIl, wIt, wIr1, wIr2, wSlS, wPop, wAppPop, R.wk, R.st, R.ar, R.bl, R.no, R.sq, R.slot, setsR, startR, List.map_cons, List.map_nil, List.cons_append, List.nil_append, List.length_cons, List.length_nil, List.replicate, List.getElem?_cons_zero, List.getElem?_cons_succ, Option.some.injEq, exists_eq_left', exists_eq_left, R.d.injEq, R.own.injEq, R.fr.injEq, List.set_cons_zero, List.set_cons_succ, addD, subD, mulDD, fdivD, modD, ltD, leD, gtD, geD, eqD, neD, isND, isnotND, inDD, notInDD, ixD, negD, lenD, absD, intD, min2D, max2D, listD, tupleD, slD, Nat.reduceAdd, Nat.reduceSub, Nat.add_zero, Nat.zero_add, true_and, and_true, ite_true, ite_false, if_true, if_false, Bool.false_eq_true, reduceIte, Option.some_inj, Bool.true_eq_false, tgW, tgWs, wipe3, List.set_nil, w_law_draw_6])
  refine ⟨small_div (by decide) (by decide), m0, ⟨_, rfl, Int.emod_nonneg _ (by omega), Int.emod_lt_of_pos _ m0⟩, draw_bk ⟨h.1, h.2.1, h.2.2.1, by omega⟩⟩
theorem p_draw_1 {ns : List Int} {m i1 i2 i3 i4 : Int} {c : Option R} (h : 0 ≤ i1 ∧ 0 ≤ i2 ∧ 0 ≤ i3 ∧ 0 ≤ i4) (m0 : 0 < m) (m1 : m < 1073741824) :
    w_law_draw_1 (drawD ns m) [some (handL ns i1 i2 i3 i4), some (.d (.int m)), c, none, none] noX := by
  (try simp only [wIzM, wWordV, wDc, wDn, wDGet, wDIn, wDNotIn, wDPut, wRetK, wFrzK, keyOf, R.dk.injEq, R.fk.injEq, wRev, neS, wSortLL, wSetIfO, ltDD, sortedDI, wIe, isDD, isnotDD, wPar2, sumDD, eqS, reprD, wV, wC, wNil, wCons, wTup, wLst, wOp, wUn, wCall, wT, wNot, wAnd, wOr, wB, wAndV, wOrV, wNotV, wIf, wIsi, wChain, wNo, wPart, wSl, wSet, wSetO, wTg, wPnil, wPcons, wPar, wNext, wSeq, wRet, wRetO, wRetN, wIfS, wBrk, wCnt, wDrop, wFrz, wApp, wExt, wSetIx, wAugIx, wAug, wRnil, wRcons, wFn, wRaise, wWord, wRetH, wSetIxH, wCount, wIndex, wIsE, wListRg1, wListRg2, wYes, wIs, wIz, wIl, wIt, wIr1, wIr2, wSlS, wPop, wAppPop, R.wk, R.st, R.ar, R.bl, R.no, R.sq, R.slot, setsR, startR, List.map_cons, List.map_nil, List.cons_append, List.nil_append, List.length_cons, List.length_nil, List.replicate, List.getElem?_cons_zero, List.getElem?_cons_succ, Option.some.injEq, exists_eq_left', exists_eq_left, R.d.injEq, R.own.injEq, R.fr.injEq, List.set_cons_zero, List.set_cons_succ, addD, subD, mulDD, fdivD, modD, ltD, leD, gtD, geD, eqD, neD, isND, isnotND, inDD, notInDD, ixD, negD, lenD, absD, intD, min2D, max2D, listD, tupleD, slD, Nat.reduceAdd, Nat.reduceSub, Nat.add_zero, Nat.zero_add, true_and, and_true, ite_true, ite_false, if_true, if_false, Bool.false_eq_true, reduceIte, Option.some_inj, Bool.true_eq_false, tgW, tgWs, wipe3, List.set_nil, w_law_draw_1, at0, at1, at2, at3, at4, handL])
  by_cases c1 : 0 < i2
  · (try simp only [wIzM, wWordV, wDc, wDn, wDGet, wDIn, wDNotIn, wDPut, wRetK, wFrzK, keyOf, R.dk.injEq, R.fk.injEq, wRev, neS, wSortLL, wSetIfO, ltDD, sortedDI, wIe, isDD, isnotDD, wPar2, sumDD, eqS, reprD, wV, wC, wNil, wCons, wTup, wLst, wOp, wUn, wCall, wT, wNot, wAnd, wOr, wB, wAndV, wOrV, wNotV, wIf, wIsi, wChain, wNo, wPart, wSl, wSet, wSetO, wTg, wPnil, wPcons, wPar, wNext, wSeq, wRet, wRetO, wRetN, wIfS, wBrk, wCnt, wDrop, wFrz, wApp, wExt, wSetIx, wAugIx, wAug, wRnil, wRcons, wFn, wRaise, wWord, wRetH, wSetIxH, wCount, wIndex, wIsE, wListRg1, wListRg2, wYes, wIs, wIz, wIl, wIt, wIr1, wIr2, wSlS, wPop, wAppPop, R.wk, R.st, R.ar, R.bl, R.no, R.sq, R.slot, setsR, startR, List.map_cons, List.map_nil, List.cons_append, List.nil_append, List.length_cons, List.length_nil, List.replicate, List.getElem?_cons_zero, List.getElem?_cons_succ, Option.some.injEq, exists_eq_left', exists_eq_left, R.d.injEq, R.own.injEq, R.fr.injEq, List.set_cons_zero, List.set_cons_succ, addD, subD, mulDD, fdivD, modD, ltD, leD, gtD, geD, eqD, neD, isND, isnotND, inDD, notInDD, ixD, negD, lenD, absD, intD, min2D, max2D, listD, tupleD, slD, Nat.reduceAdd, Nat.reduceSub, Nat.add_zero, Nat.zero_add, true_and, and_true, ite_true, ite_false, if_true, if_false, Bool.false_eq_true, reduceIte, Option.some_inj, Bool.true_eq_false, tgW, tgWs, wipe3, List.set_nil, c1, decide_true])
    refine ⟨m0, small_div m0 m1, 1, ix5_2, ⟨_, rfl, Int.emod_nonneg _ (by omega), Int.emod_lt_of_pos _ m0⟩, ?_⟩
    exact draw_bk ⟨h.1, Int.ediv_nonneg (by omega) (by omega), h.2.2⟩
  · (try simp only [wIzM, wWordV, wDc, wDn, wDGet, wDIn, wDNotIn, wDPut, wRetK, wFrzK, keyOf, R.dk.injEq, R.fk.injEq, wRev, neS, wSortLL, wSetIfO, ltDD, sortedDI, wIe, isDD, isnotDD, wPar2, sumDD, eqS, reprD, wV, wC, wNil, wCons, wTup, wLst, wOp, wUn, wCall, wT, wNot, wAnd, wOr, wB, wAndV, wOrV, wNotV, wIf, wIsi, wChain, wNo, wPart, wSl, wSet, wSetO, wTg, wPnil, wPcons, wPar, wNext, wSeq, wRet, wRetO, wRetN, wIfS, wBrk, wCnt, wDrop, wFrz, wApp, wExt, wSetIx, wAugIx, wAug, wRnil, wRcons, wFn, wRaise, wWord, wRetH, wSetIxH, wCount, wIndex, wIsE, wListRg1, wListRg2, wYes, wIs, wIz, wIl, wIt, wIr1, wIr2, wSlS, wPop, wAppPop, R.wk, R.st, R.ar, R.bl, R.no, R.sq, R.slot, setsR, startR, List.map_cons, List.map_nil, List.cons_append, List.nil_append, List.length_cons, List.length_nil, List.replicate, List.getElem?_cons_zero, List.getElem?_cons_succ, Option.some.injEq, exists_eq_left', exists_eq_left, R.d.injEq, R.own.injEq, R.fr.injEq, List.set_cons_zero, List.set_cons_succ, addD, subD, mulDD, fdivD, modD, ltD, leD, gtD, geD, eqD, neD, isND, isnotND, inDD, notInDD, ixD, negD, lenD, absD, intD, min2D, max2D, listD, tupleD, slD, Nat.reduceAdd, Nat.reduceSub, Nat.add_zero, Nat.zero_add, true_and, and_true, ite_true, ite_false, if_true, if_false, Bool.false_eq_true, reduceIte, Option.some_inj, Bool.true_eq_false, tgW, tgWs, wipe3, List.set_nil, c1, decide_false])
    exact p_draw_2 h m0 m1
theorem p_law_draw : ∀ (ns is : List Int) (m : Int), is.length = L_hand → (∀ i ∈ is, 0 ≤ i) → 0 < m → m < 1073741824 → w_law_draw (drawD ns m) (drawR N_law_draw ns is m) noX := by
  intro ns is m hl h0 m0 m1
  match is, hl with
  | [i1, i2, i3, i4], _ =>
    have h : 0 ≤ i1 ∧ 0 ≤ i2 ∧ 0 ≤ i3 ∧ 0 ≤ i4 := ⟨h0 i1 (by simp), h0 i2 (by simp), h0 i3 (by simp), h0 i4 (by simp)⟩
    show w_law_draw (drawD ns m) [some (handL ns i1 i2 i3 i4), some (.d (.int m)), none, none, none] noX
    (try simp only [wIzM, wWordV, wDc, wDn, wDGet, wDIn, wDNotIn, wDPut, wRetK, wFrzK, keyOf, R.dk.injEq, R.fk.injEq, wRev, neS, wSortLL, wSetIfO, ltDD, sortedDI, wIe, isDD, isnotDD, wPar2, sumDD, eqS, reprD, wV, wC, wNil, wCons, wTup, wLst, wOp, wUn, wCall, wT, wNot, wAnd, wOr, wB, wAndV, wOrV, wNotV, wIf, wIsi, wChain, wNo, wPart, wSl, wSet, wSetO, wTg, wPnil, wPcons, wPar, wNext, wSeq, wRet, wRetO, wRetN, wIfS, wBrk, wCnt, wDrop, wFrz, wApp, wExt, wSetIx, wAugIx, wAug, wRnil, wRcons, wFn, wRaise, wWord, wRetH, wSetIxH, wCount, wIndex, wIsE, wListRg1, wListRg2, wYes, wIs, wIz, wIl, wIt, wIr1, wIr2, wSlS, wPop, wAppPop, R.wk, R.st, R.ar, R.bl, R.no, R.sq, R.slot, setsR, startR, List.map_cons, List.map_nil, List.cons_append, List.nil_append, List.length_cons, List.length_nil, List.replicate, List.getElem?_cons_zero, List.getElem?_cons_succ, Option.some.injEq, exists_eq_left', exists_eq_left, R.d.injEq, R.own.injEq, R.fr.injEq, List.set_cons_zero, List.set_cons_succ, addD, subD, mulDD, fdivD, modD, ltD, leD, gtD, geD, eqD, neD, isND, isnotND, inDD, notInDD, ixD, negD, lenD, absD, intD, min2D, max2D, listD, tupleD, slD, Nat.reduceAdd, Nat.reduceSub, Nat.add_zero, Nat.zero_add, true_and, and_true, ite_true, ite_false, if_true, if_false, Bool.false_eq_true, reduceIte, Option.some_inj, Bool.true_eq_false, tgW, tgWs, wipe3, List.set_nil, w_law_draw, at0, at1, at2, at3, at4, handL, eqv_ii, sh_i])
    by_cases c1 : i2 = 0
    · (try simp only [wIzM, wWordV, wDc, wDn, wDGet, wDIn, wDNotIn, wDPut, wRetK, wFrzK, keyOf, R.dk.injEq, R.fk.injEq, wRev, neS, wSortLL, wSetIfO, ltDD, sortedDI, wIe, isDD, isnotDD, wPar2, sumDD, eqS, reprD, wV, wC, wNil, wCons, wTup, wLst, wOp, wUn, wCall, wT, wNot, wAnd, wOr, wB, wAndV, wOrV, wNotV, wIf, wIsi, wChain, wNo, wPart, wSl, wSet, wSetO, wTg, wPnil, wPcons, wPar, wNext, wSeq, wRet, wRetO, wRetN, wIfS, wBrk, wCnt, wDrop, wFrz, wApp, wExt, wSetIx, wAugIx, wAug, wRnil, wRcons, wFn, wRaise, wWord, wRetH, wSetIxH, wCount, wIndex, wIsE, wListRg1, wListRg2, wYes, wIs, wIz, wIl, wIt, wIr1, wIr2, wSlS, wPop, wAppPop, R.wk, R.st, R.ar, R.bl, R.no, R.sq, R.slot, setsR, startR, List.map_cons, List.map_nil, List.cons_append, List.nil_append, List.length_cons, List.length_nil, List.replicate, List.getElem?_cons_zero, List.getElem?_cons_succ, Option.some.injEq, exists_eq_left', exists_eq_left, R.d.injEq, R.own.injEq, R.fr.injEq, List.set_cons_zero, List.set_cons_succ, addD, subD, mulDD, fdivD, modD, ltD, leD, gtD, geD, eqD, neD, isND, isnotND, inDD, notInDD, ixD, negD, lenD, absD, intD, min2D, max2D, listD, tupleD, slD, Nat.reduceAdd, Nat.reduceSub, Nat.add_zero, Nat.zero_add, true_and, and_true, ite_true, ite_false, if_true, if_false, Bool.false_eq_true, reduceIte, Option.some_inj, Bool.true_eq_false, tgW, tgWs, wipe3, List.set_nil, c1, decide_true])
      by_cases c2 : i1 < ((ns.map PyData.int).length : Int)
      · (try simp only [wIzM, wWordV, wDc, wDn, wDGet, wDIn, wDNotIn, wDPut, wRetK, wFrzK, keyOf, R.dk.injEq, R.fk.injEq, wRev, neS, wSortLL, wSetIfO, ltDD, sortedDI, wIe, isDD, isnotDD, wPar2, sumDD, eqS, reprD, wV, wC, wNil, wCons, wTup, wLst, wOp, wUn, wCall, wT, wNot, wAnd, wOr, wB, wAndV, wOrV, wNotV, wIf, wIsi, wChain, wNo, wPart, wSl, wSet, wSetO, wTg, wPnil, wPcons, wPar, wNext, wSeq, wRet, wRetO, wRetN, wIfS, wBrk, wCnt, wDrop, wFrz, wApp, wExt, wSetIx, wAugIx, wAug, wRnil, wRcons, wFn, wRaise, wWord, wRetH, wSetIxH, wCount, wIndex, wIsE, wListRg1, wListRg2, wYes, wIs, wIz, wIl, wIt, wIr1, wIr2, wSlS, wPop, wAppPop, R.wk, R.st, R.ar, R.bl, R.no, R.sq, R.slot, setsR, startR, List.map_cons, List.map_nil, List.cons_append, List.nil_append, List.length_cons, List.length_nil, List.replicate, List.getElem?_cons_zero, List.getElem?_cons_succ, Option.some.injEq, exists_eq_left', exists_eq_left, R.d.injEq, R.own.injEq, R.fr.injEq, List.set_cons_zero, List.set_cons_succ, addD, subD, mulDD, fdivD, modD, ltD, leD, gtD, geD, eqD, neD, isND, isnotND, inDD, notInDD, ixD, negD, lenD, absD, intD, min2D, max2D, listD, tupleD, slD, Nat.reduceAdd, Nat.reduceSub, Nat.add_zero, Nat.zero_add, true_and, and_true, ite_true, ite_false, if_true, if_false, Bool.false_eq_true, reduceIte, Option.some_inj, Bool.true_eq_false, tgW, tgWs, wipe3, List.set_nil, c2, decide_true])
        have hi : i1.toNat < ns.length := by
          rw [List.length_map] at c2
          omega
        have ea : atI (ns.map PyData.int) i1 = some (.int (ns.getD i1.toNat 0)) := by
          have z := at_map (ns := ns) hi
          rw [Int.toNat_of_nonneg h.1] at z
          exact z
        refine ⟨_, ea, 0, ix5_1, ?_⟩
        (try simp only [wIzM, wWordV, wDc, wDn, wDGet, wDIn, wDNotIn, wDPut, wRetK, wFrzK, keyOf, R.dk.injEq, R.fk.injEq, wRev, neS, wSortLL, wSetIfO, ltDD, sortedDI, wIe, isDD, isnotDD, wPar2, sumDD, eqS, reprD, wV, wC, wNil, wCons, wTup, wLst, wOp, wUn, wCall, wT, wNot, wAnd, wOr, wB, wAndV, wOrV, wNotV, wIf, wIsi, wChain, wNo, wPart, wSl, wSet, wSetO, wTg, wPnil, wPcons, wPar, wNext, wSeq, wRet, wRetO, wRetN, wIfS, wBrk, wCnt, wDrop, wFrz, wApp, wExt, wSetIx, wAugIx, wAug, wRnil, wRcons, wFn, wRaise, wWord, wRetH, wSetIxH, wCount, wIndex, wIsE, wListRg1, wListRg2, wYes, wIs, wIz, wIl, wIt, wIr1, wIr2, wSlS, wPop, wAppPop, R.wk, R.st, R.ar, R.bl, R.no, R.sq, R.slot, setsR, startR, List.map_cons, List.map_nil, List.cons_append, List.nil_append, List.length_cons, List.length_nil, List.replicate, List.getElem?_cons_zero, List.getElem?_cons_succ, Option.some.injEq, exists_eq_left', exists_eq_left, R.d.injEq, R.own.injEq, R.fr.injEq, List.set_cons_zero, List.set_cons_succ, addD, subD, mulDD, fdivD, modD, ltD, leD, gtD, geD, eqD, neD, isND, isnotND, inDD, notInDD, ixD, negD, lenD, absD, intD, min2D, max2D, listD, tupleD, slD, Nat.reduceAdd, Nat.reduceSub, Nat.add_zero, Nat.zero_add, true_and, and_true, ite_true, ite_false, if_true, if_false, Bool.false_eq_true, reduceIte, Option.some_inj, Bool.true_eq_false, tgW, tgWs, wipe3, List.set_nil, at3, powD])
        refine ⟨small_mul2 (by decide), small_mul2 (by decide), by decide, 2, ix5_3, ⟨by decide, by decide, by decide⟩, ?_⟩
        have e3 := Int.emod_nonneg (i3 * 69621 + ns.getD i1.toNat 0 * 40692 + 31) (show (2147483629 : Int) ≠ 0 by decide)
        by_cases c3 : (10 : Int) ^ (18 : Int).toNat ≤ ns.getD i1.toNat 0
        · (try simp only [wIzM, wWordV, wDc, wDn, wDGet, wDIn, wDNotIn, wDPut, wRetK, wFrzK, keyOf, R.dk.injEq, R.fk.injEq, wRev, neS, wSortLL, wSetIfO, ltDD, sortedDI, wIe, isDD, isnotDD, wPar2, sumDD, eqS, reprD, wV, wC, wNil, wCons, wTup, wLst, wOp, wUn, wCall, wT, wNot, wAnd, wOr, wB, wAndV, wOrV, wNotV, wIf, wIsi, wChain, wNo, wPart, wSl, wSet, wSetO, wTg, wPnil, wPcons, wPar, wNext, wSeq, wRet, wRetO, wRetN, wIfS, wBrk, wCnt, wDrop, wFrz, wApp, wExt, wSetIx, wAugIx, wAug, wRnil, wRcons, wFn, wRaise, wWord, wRetH, wSetIxH, wCount, wIndex, wIsE, wListRg1, wListRg2, wYes, wIs, wIz, wIl, wIt, wIr1, wIr2, wSlS, wPop, wAppPop, R.wk, R.st, R.ar, R.bl, R.no, R.sq, R.slot, setsR, startR, List.map_cons, List.map_nil, List.cons_append, List.nil_append, List.length_cons, List.length_nil, List.replicate, List.getElem?_cons_zero, List.getElem?_cons_succ, Option.some.injEq, exists_eq_left', exists_eq_left, R.d.injEq, R.own.injEq, R.fr.injEq, List.set_cons_zero, List.set_cons_succ, addD, subD, mulDD, fdivD, modD, ltD, leD, gtD, geD, eqD, neD, isND, isnotND, inDD, notInDD, ixD, negD, lenD, absD, intD, min2D, max2D, listD, tupleD, slD, Nat.reduceAdd, Nat.reduceSub, Nat.add_zero, Nat.zero_add, true_and, and_true, ite_true, ite_false, if_true, if_false, Bool.false_eq_true, reduceIte, Option.some_inj, Bool.true_eq_false, tgW, tgWs, wipe3, List.set_nil, c3, decide_true])
          refine ⟨1, ix5_2, ?_⟩
          have c4 : 0 ≤ ns.getD i1.toNat 0 := Int.le_trans (by decide) c3
          exact p_draw_1 ⟨by omega, c4, e3, h.2.2.2⟩ m0 m1
        · (try simp only [wIzM, wWordV, wDc, wDn, wDGet, wDIn, wDNotIn, wDPut, wRetK, wFrzK, keyOf, R.dk.injEq, R.fk.injEq, wRev, neS, wSortLL, wSetIfO, ltDD, sortedDI, wIe, isDD, isnotDD, wPar2, sumDD, eqS, reprD, wV, wC, wNil, wCons, wTup, wLst, wOp, wUn, wCall, wT, wNot, wAnd, wOr, wB, wAndV, wOrV, wNotV, wIf, wIsi, wChain, wNo, wPart, wSl, wSet, wSetO, wTg, wPnil, wPcons, wPar, wNext, wSeq, wRet, wRetO, wRetN, wIfS, wBrk, wCnt, wDrop, wFrz, wApp, wExt, wSetIx, wAugIx, wAug, wRnil, wRcons, wFn, wRaise, wWord, wRetH, wSetIxH, wCount, wIndex, wIsE, wListRg1, wListRg2, wYes, wIs, wIz, wIl, wIt, wIr1, wIr2, wSlS, wPop, wAppPop, R.wk, R.st, R.ar, R.bl, R.no, R.sq, R.slot, setsR, startR, List.map_cons, List.map_nil, List.cons_append, List.nil_append, List.length_cons, List.length_nil, List.replicate, List.getElem?_cons_zero, List.getElem?_cons_succ, Option.some.injEq, exists_eq_left', exists_eq_left, R.d.injEq, R.own.injEq, R.fr.injEq, List.set_cons_zero, List.set_cons_succ, addD, subD, mulDD, fdivD, modD, ltD, leD, gtD, geD, eqD, neD, isND, isnotND, inDD, notInDD, ixD, negD, lenD, absD, intD, min2D, max2D, listD, tupleD, slD, Nat.reduceAdd, Nat.reduceSub, Nat.add_zero, Nat.zero_add, true_and, and_true, ite_true, ite_false, if_true, if_false, Bool.false_eq_true, reduceIte, Option.some_inj, Bool.true_eq_false, tgW, tgWs, wipe3, List.set_nil, c3, decide_false])
          exact p_draw_1 ⟨by omega, by omega, e3, h.2.2.2⟩ m0 m1
      · (try simp only [wIzM, wWordV, wDc, wDn, wDGet, wDIn, wDNotIn, wDPut, wRetK, wFrzK, keyOf, R.dk.injEq, R.fk.injEq, wRev, neS, wSortLL, wSetIfO, ltDD, sortedDI, wIe, isDD, isnotDD, wPar2, sumDD, eqS, reprD, wV, wC, wNil, wCons, wTup, wLst, wOp, wUn, wCall, wT, wNot, wAnd, wOr, wB, wAndV, wOrV, wNotV, wIf, wIsi, wChain, wNo, wPart, wSl, wSet, wSetO, wTg, wPnil, wPcons, wPar, wNext, wSeq, wRet, wRetO, wRetN, wIfS, wBrk, wCnt, wDrop, wFrz, wApp, wExt, wSetIx, wAugIx, wAug, wRnil, wRcons, wFn, wRaise, wWord, wRetH, wSetIxH, wCount, wIndex, wIsE, wListRg1, wListRg2, wYes, wIs, wIz, wIl, wIt, wIr1, wIr2, wSlS, wPop, wAppPop, R.wk, R.st, R.ar, R.bl, R.no, R.sq, R.slot, setsR, startR, List.map_cons, List.map_nil, List.cons_append, List.nil_append, List.length_cons, List.length_nil, List.replicate, List.getElem?_cons_zero, List.getElem?_cons_succ, Option.some.injEq, exists_eq_left', exists_eq_left, R.d.injEq, R.own.injEq, R.fr.injEq, List.set_cons_zero, List.set_cons_succ, addD, subD, mulDD, fdivD, modD, ltD, leD, gtD, geD, eqD, neD, isND, isnotND, inDD, notInDD, ixD, negD, lenD, absD, intD, min2D, max2D, listD, tupleD, slD, Nat.reduceAdd, Nat.reduceSub, Nat.add_zero, Nat.zero_add, true_and, and_true, ite_true, ite_false, if_true, if_false, Bool.false_eq_true, reduceIte, Option.some_inj, Bool.true_eq_false, tgW, tgWs, wipe3, List.set_nil, c2, decide_false])
        exact p_draw_1 ⟨h.1, by omega, h.2.2⟩ m0 m1
    · (try simp only [wIzM, wWordV, wDc, wDn, wDGet, wDIn, wDNotIn, wDPut, wRetK, wFrzK, keyOf, R.dk.injEq, R.fk.injEq, wRev, neS, wSortLL, wSetIfO, ltDD, sortedDI, wIe, isDD, isnotDD, wPar2, sumDD, eqS, reprD, wV, wC, wNil, wCons, wTup, wLst, wOp, wUn, wCall, wT, wNot, wAnd, wOr, wB, wAndV, wOrV, wNotV, wIf, wIsi, wChain, wNo, wPart, wSl, wSet, wSetO, wTg, wPnil, wPcons, wPar, wNext, wSeq, wRet, wRetO, wRetN, wIfS, wBrk, wCnt, wDrop, wFrz, wApp, wExt, wSetIx, wAugIx, wAug, wRnil, wRcons, wFn, wRaise, wWord, wRetH, wSetIxH, wCount, wIndex, wIsE, wListRg1, wListRg2, wYes, wIs, wIz, wIl, wIt, wIr1, wIr2, wSlS, wPop, wAppPop, R.wk, R.st, R.ar, R.bl, R.no, R.sq, R.slot, setsR, startR, List.map_cons, List.map_nil, List.cons_append, List.nil_append, List.length_cons, List.length_nil, List.replicate, List.getElem?_cons_zero, List.getElem?_cons_succ, Option.some.injEq, exists_eq_left', exists_eq_left, R.d.injEq, R.own.injEq, R.fr.injEq, List.set_cons_zero, List.set_cons_succ, addD, subD, mulDD, fdivD, modD, ltD, leD, gtD, geD, eqD, neD, isND, isnotND, inDD, notInDD, ixD, negD, lenD, absD, intD, min2D, max2D, listD, tupleD, slD, Nat.reduceAdd, Nat.reduceSub, Nat.add_zero, Nat.zero_add, true_and, and_true, ite_true, ite_false, if_true, if_false, Bool.false_eq_true, reduceIte, Option.some_inj, Bool.true_eq_false, tgW, tgWs, wipe3, List.set_nil, c1, decide_false])
      exact p_draw_1 h m0 m1
theorem ok_law_draw (D : Txt K mg base T) : Cal false P w K mg base T 1 "_law_draw" (C_draw L_hand) :=
  cal_draw (wb := w_law_draw) D.d_law_draw sc_law_draw bi_law_draw (fun f cdv A outer s H E hp hr => hs_cons (hs_if (PW.pt (ew_and (et_cmp (op_eqT (u64 hr)) (ev_ix ix_D (ev_var (pv 0)) (ev_int) (fun _ _ => rfl)) (ev_int) (nomark _)) (ew_and1 (et_cmp (op_ltDD (u64 hr)) (ev_ix ix_D (ev_var (pv 0)) (ev_int) (fun _ _ => rfl)) (ev_callB cr_len rfl D.n_len bb_len (el_cons selW (ev_ix ix_D (ev_var (pv 0)) (ev_int) (fun _ _ => rfl)) (el_nil))) (nomark _))))) (hs_cons (hs_set (i := 2) (by decide) sc_law_draw.nd rfl (by first | exact Or.inl rfl | exact Or.inr rfl) (ev_ix ix_D (ev_ix ix_D (ev_var (pv 0)) (ev_int) (fun _ _ => rfl)) (ev_ix ix_D (ev_var (pv 0)) (ev_int) (fun _ _ => rfl)) (fun _ _ => rfl))) (hs_cons (hs_setIx (ev_op op_addD (ev_ix ix_D (ev_var (pv 0)) (ev_int) (fun _ _ => rfl)) (ev_int)) (pv 0) (ev_int)) (hs_cons (hs_setIx (ev_op op_modD (ev_callTy cr_int rfl D.n_int bb_int (el_cons selW (ev_op op_addD (ev_op op_addD (ev_op op_mulDD (ev_ix ix_D (ev_var (pv 0)) (ev_int) (fun _ _ => rfl)) (ev_int)) (ev_op op_mulDD (ev_var (pv 2)) (ev_int))) (ev_int)) (el_nil))) (ev_int)) (pv 0) (ev_int)) (hs_one (hs_if (et_cmp op_geD (ev_var (pv 2)) (ev_op op_powD (ev_int) (ev_int)) (nomark _)) (hs_one (hs_setIx (ev_var (pv 2)) (pv 0) (ev_int))) (hs_nil)))))) (hs_nil)) (hs_cons (hs_if (et_cmp op_gtD (ev_ix ix_D (ev_var (pv 0)) (ev_int) (fun _ _ => rfl)) (ev_int) (nomark _)) (hs_cons (hs_set (i := 3) (by decide) sc_law_draw.nd rfl (by first | exact Or.inl rfl | exact Or.inr rfl) (ev_op op_modD (ev_callTy cr_int rfl D.n_int bb_int (el_cons selW (ev_ix ix_D (ev_var (pv 0)) (ev_int) (fun _ _ => rfl)) (el_nil))) (ev_var (pv 1)))) (hs_cons (hs_setIx (ev_op op_fdivD (ev_ix ix_D (ev_var (pv 0)) (ev_int) (fun _ _ => rfl)) (ev_var (pv 1))) (pv 0) (ev_int)) (hs_one (hs_ret (ev_var (pv 3)))))) (hs_nil)) (hs_cons (hs_setIx (ev_op op_addD (ev_ix ix_D (ev_var (pv 0)) (ev_int) (fun _ _ => rfl)) (ev_int)) (pv 0) (ev_int)) (hs_cons (hs_set (i := 4) (by decide) sc_law_draw.nd rfl (by first | exact Or.inl rfl | exact Or.inr rfl) (ev_op op_modD (ev_callTy cr_int rfl D.n_int bb_int (el_cons selW (ev_op op_mulDD (ev_callTy cr_int rfl D.n_int bb_int (el_cons selW (ev_op op_addD (ev_ix ix_D (ev_var (pv 0)) (ev_int) (fun _ _ => rfl)) (ev_op op_mulDD (ev_int) (ev_ix ix_D (ev_var (pv 0)) (ev_int) (fun _ _ => rfl)))) (el_nil))) (ev_int)) (el_nil))) (ev_int))) (hs_cons (hs_set (i := 4) (by decide) sc_law_draw.nd rfl (by first | exact Or.inl rfl | exact Or.inr rfl) (ev_op op_modD (ev_callTy cr_int rfl D.n_int bb_int (el_cons selW (ev_op op_mulDD (ev_var (pv 4)) (ev_op op_addD (ev_op op_fdivD (ev_var (pv 4)) (ev_int)) (ev_int))) (el_nil))) (ev_int))) (hs_cons (hs_set (i := 4) (by decide) sc_law_draw.nd rfl (by first | exact Or.inl rfl | exact Or.inr rfl) (ev_op op_modD (ev_callTy cr_int rfl D.n_int bb_int (el_cons selW (ev_op op_mulDD (ev_var (pv 4)) (ev_op op_addD (ev_op op_fdivD (ev_var (pv 4)) (ev_int)) (ev_int))) (el_nil))) (ev_int))) (hs_one (hs_ret (ev_op op_modD (ev_callTy cr_int rfl D.n_int bb_int (el_cons selW (ev_op op_fdivD (ev_var (pv 4)) (ev_int)) (el_nil))) (ev_var (pv 1))))))))))) p_law_draw
abbrev C_law_draw : Ct := C_draw L_hand
/-! ### _law_any -/
abbrev N_law_any : List Str := ["hand", "some"]
theorem sc_law_any : FnScope N_law_any ["hand", "some"] (defScope s_law_any) := ⟨rfl, rfl, rfl, by decide +kernel, rfl, by decide +kernel, by decide +kernel⟩
theorem bi_law_any : BindsBy "_law_any" s_law_any ["hand", "some"] := fun _ _ _ _ _ _ us hl => match us, hl with | [_, _], _ => rfl
def w_law_any : WS := wRet (wOp ixD (wV 1) (wFn C_law_draw (wRcons (wV 0) (wRcons (wCall lenD (wCons R.wk (wV 1) (wNil))) (wRnil)))))
def C_law_any : Ct := fun rs Q _ => ∃ xs, rs = [.hand L_hand, .d (.list xs)] ∧ 0 < xs.length ∧ xs.length < 1073741824 ∧ ∀ x ∈ xs, Q (.d x)
theorem l_law_any : ∀ rs Q X, C_law_any rs Q X → rs.length = 2 := by
  rintro rs Q X ⟨_, rfl, _⟩
  rfl
theorem p_law_any : ∀ rs Q X, C_law_any rs Q X → w_law_any ⟨fun _ => Q (.d .none), Q, fun _ => False, fun _ => False⟩ (startR N_law_any rs) X := by
  rintro rs Q X ⟨xs, rfl, h0, h1, h⟩
  (try simp only [wIzM, wWordV, wDc, wDn, wDGet, wDIn, wDNotIn, wDPut, wRetK, wFrzK, keyOf, R.dk.injEq, R.fk.injEq, wRev, neS, wSortLL, wSetIfO, ltDD, sortedDI, wIe, isDD, isnotDD, wPar2, sumDD, eqS, reprD, wV, wC, wNil, wCons, wTup, wLst, wOp, wUn, wCall, wT, wNot, wAnd, wOr, wB, wAndV, wOrV, wNotV, wIf, wIsi, wChain, wNo, wPart, wSl, wSet, wSetO, wTg, wPnil, wPcons, wPar, wNext, wSeq, wRet, wRetO, wRetN, wIfS, wBrk, wCnt, wDrop, wFrz, wApp, wExt, wSetIx, wAugIx, wAug, wRnil, wRcons, wFn, wRaise, wWord, wRetH, wSetIxH, wCount, wIndex, wIsE, wListRg1, wListRg2, wYes, wIs, wIz, wIl, wIt, wIr1, wIr2, wSlS, wPop, wAppPop, R.wk, R.st, R.ar, R.bl, R.no, R.sq, R.slot, setsR, startR, List.map_cons, List.map_nil, List.cons_append, List.nil_append, List.length_cons, List.length_nil, List.replicate, List.getElem?_cons_zero, List.getElem?_cons_succ, Option.some.injEq, exists_eq_left', exists_eq_left, R.d.injEq, R.own.injEq, R.fr.injEq, List.set_cons_zero, List.set_cons_succ, addD, subD, mulDD, fdivD, modD, ltD, leD, gtD, geD, eqD, neD, isND, isnotND, inDD, notInDD, ixD, negD, lenD, absD, intD, min2D, max2D, listD, tupleD, slD, Nat.reduceAdd, Nat.reduceSub, Nat.add_zero, Nat.zero_add, true_and, and_true, ite_true, ite_false, if_true, if_false, Bool.false_eq_true, reduceIte, Option.some_inj, Bool.true_eq_false, tgW, tgWs, wipe3, List.set_nil, w_law_any, C_law_draw, C_draw])
  refine ⟨xs.length, rfl, by omega, by omega, fun n n0 n1 => ?_⟩
  (try simp only [wIzM, wWordV, wDc, wDn, wDGet, wDIn, wDNotIn, wDPut, wRetK, wFrzK, keyOf, R.dk.injEq, R.fk.injEq, wRev, neS, wSortLL, wSetIfO, ltDD, sortedDI, wIe, isDD, isnotDD, wPar2, sumDD, eqS, reprD, wV, wC, wNil, wCons, wTup, wLst, wOp, wUn, wCall, wT, wNot, wAnd, wOr, wB, wAndV, wOrV, wNotV, wIf, wIsi, wChain, wNo, wPart, wSl, wSet, wSetO, wTg, wPnil, wPcons, wPar, wNext, wSeq, wRet, wRetO, wRetN, wIfS, wBrk, wCnt, wDrop, wFrz, wApp, wExt, wSetIx, wAugIx, wAug, wRnil, wRcons, wFn, wRaise, wWord, wRetH, wSetIxH, wCount, wIndex, wIsE, wListRg1, wListRg2, wYes, wIs, wIz, wIl, wIt, wIr1, wIr2, wSlS, wPop, wAppPop, R.wk, R.st, R.ar, R.bl, R.no, R.sq, R.slot, setsR, startR, List.map_cons, List.map_nil, List.cons_append, List.nil_append, List.length_cons, List.length_nil, List.replicate, List.getElem?_cons_zero, List.getElem?_cons_succ, Option.some.injEq, exists_eq_left', exists_eq_left, R.d.injEq, R.own.injEq, R.fr.injEq, List.set_cons_zero, List.set_cons_succ, addD, subD, mulDD, fdivD, modD, ltD, leD, gtD, geD, eqD, neD, isND, isnotND, inDD, notInDD, ixD, negD, lenD, absD, intD, min2D, max2D, listD, tupleD, slD, Nat.reduceAdd, Nat.reduceSub, Nat.add_zero, Nat.zero_add, true_and, and_true, ite_true, ite_false, if_true, if_false, Bool.false_eq_true, reduceIte, Option.some_inj, Bool.true_eq_false, tgW, tgWs, wipe3, List.set_nil])
  have hn : n.toNat < xs.length := by omega
  have e := at_nat hn
  rw [Int.toNat_of_nonneg n0] at e
  exact ⟨_, e, h _ (List.getElem_mem hn)⟩
theorem ok_law_any (D : Txt K mg base T) : Cal false P w K mg base T 2 "_law_any" C_law_any :=
  cal_of (wb := w_law_any) D.d_law_any sc_law_any bi_law_any l_law_any (fun f cdv A outer s H E hp hr hgd => ess_one (es_ret (ev_ix ix_D (ev_var (pv 1)) (ev_fnC (ok_law_draw D) hr (by decide) (fun h => by cases h) rfl pass_cx (er_cons (ev_var (pv 0)) (er_cons (ev_callB cr_len rfl D.n_len bb_len (el_cons selW (ev_var (pv 1)) (el_nil))) (er_nil)))) (fun _ _ => rfl)))) p_law_any
/-! ### _law_is -/
abbrev N_law_is : List Str := ["given", "due", "one", "other"]
theorem sc_law_is : FnScope N_law_is ["given", "due"] (defScope s_law_is) := ⟨rfl, rfl, rfl, by decide +kernel, rfl, by decide +kernel, by decide +kernel⟩
theorem bi_law_is : BindsBy "_law_is" s_law_is ["given", "due"] := fun _ _ _ _ _ _ us hl => match us, hl with | [_, _], _ => rfl
def w_law_is (Ci : Ct) : WS := wSeq (wIfS (wOr (wT (wOp isDD (wV 1) (wC .none))) (wT (wOp isDD (wV 0) (wC .none)))) (wRet (wAndV (wOp isDD (wV 1) (wC .none)) (wOp isDD (wV 0) (wC .none)))) (wNext)) (wSeq (wIfS (wOr (wT (wIsi isTup (wV 1))) (wT (wIsi isLst (wV 1)))) (wSeq (wIfS (wT (wOp neD (wIsi isTup (wV 0)) (wIsi isTup (wV 1)))) (wRet (wC (.bool false))) (wNext)) (wSeq (wIfS (wT (wOp neD (wIsi isLst (wV 0)) (wIsi isLst (wV 1)))) (wRet (wC (.bool false))) (wNext)) (wRet (wAndV (wOp eqD (wCall lenD (wCons R.wk (wV 0) (wNil))) (wCall lenD (wCons R.wk (wV 1) (wNil)))) (wCall allD (wCons R.wk (wLc (wIz (wV 0) (wV 1)) (.tup [.one 2, .one 3]) wYes (wFn Ci (wRcons (wV 2) (wRcons (wV 3) (wRnil)))) [2, 3]) (wNil))))))) (wNext)) (wSeq (wIfS (wOr (wT (wOp neD (wIsi isBool (wV 0)) (wIsi isBool (wV 1)))) (wT (wOp neD (wIsi isInt (wV 0)) (wIsi isInt (wV 1))))) (wRet (wC (.bool false))) (wNext)) (wRet (wAndV (wOp eqD (wIsi isStr (wV 0)) (wIsi isStr (wV 1))) (wOp eqD (wV 0) (wV 1))))))
def Simp : Nat → PyData → Prop
  | 0, _ => False
  | n + 1, .tuple xs => ∀ x ∈ xs, Simp n x
  | n + 1, .list xs => ∀ x ∈ xs, Simp n x
  | _ + 1, .dict _ => False
  | _ + 1, .str s => SeqAt.shaped (.str s) = true
  | _ + 1, _ => True
theorem zip_self : ∀ xs : List PyData, zipD xs xs = xs.map fun x => .tuple [x, x]
  | [] => rfl
  | x :: xs => by
    show PyData.tuple [x, x] :: zipD xs xs = _
    rw [zip_self xs]
    rfl
theorem all_true (xs : List PyData) : ∃ bs : List Bool, (xs.map fun _ => PyData.bool true) = bs.map PyData.bool ∧ bs.all id = true := ⟨xs.map fun _ => true, by rw [List.map_map]; rfl, by simp⟩
def CR_law_is : Nat → Ct
  | 0 => fun _ _ _ => False
  | n + 1 => fun rs Q _ => ∃ x, rs = [.d x, .d x] ∧ Simp (n + 1) x ∧ Q (.d (.bool true))
theorem l_law_is : ∀ n rs Q X, CR_law_is (n + 1) rs Q X → rs.length = 2 := by
  rintro n rs Q X ⟨x, rfl, _⟩
  rfl
theorem eqv_bb (b : Bool) : PyData.eqv (.bool b) (.bool b) = true := eqv_same (lay_b b)
theorem p_law_is : ∀ n rs Q X, CR_law_is (n + 1) rs Q X → w_law_is (CR_law_is n) ⟨fun _ => Q (.d .none), Q, fun _ => False, fun _ => False⟩ (startR N_law_is rs) X := by
  rintro n rs Q X ⟨x, rfl, s, h⟩
  have go : ∀ xs : List PyData, (∀ x ∈ xs, Simp n x) → ∀ ρ : Env3, ρ = [some (.d x), some (.d x), none, none] → lcL (.tup [.one 2, .one 3]) wYes (wFn (CR_law_is n) (wRcons (wV 2) (wRcons (wV 3) wRnil))) ρ (fun r => ∃ bs : List Bool, r = bs.map PyData.bool ∧ Q (.d (.bool (bs.all id)))) (zipD xs xs) [] := by
    intro xs s ρ e
    subst e
    rw [zip_self]
    refine lc_map (fun _ => .bool true) _ (fun y hy k hk => ?_) ?_
    · obtain ⟨z, hz, rfl⟩ := List.mem_map.mp hy
      (try simp only [wIzM, wWordV, wDc, wDn, wDGet, wDIn, wDNotIn, wDPut, wRetK, wFrzK, keyOf, R.dk.injEq, R.fk.injEq, wRev, neS, wSortLL, wSetIfO, ltDD, sortedDI, wIe, isDD, isnotDD, wPar2, sumDD, eqS, reprD, wV, wC, wNil, wCons, wTup, wLst, wOp, wUn, wCall, wT, wNot, wAnd, wOr, wB, wAndV, wOrV, wNotV, wIf, wIsi, wChain, wNo, wPart, wSl, wSet, wSetO, wTg, wPnil, wPcons, wPar, wNext, wSeq, wRet, wRetO, wRetN, wIfS, wBrk, wCnt, wDrop, wFrz, wApp, wExt, wSetIx, wAugIx, wAug, wRnil, wRcons, wFn, wRaise, wWord, wRetH, wSetIxH, wCount, wIndex, wIsE, wListRg1, wListRg2, wYes, wIs, wIz, wIl, wIt, wIr1, wIr2, wSlS, wPop, wAppPop, R.wk, R.st, R.ar, R.bl, R.no, R.sq, R.slot, setsR, startR, List.map_cons, List.map_nil, List.cons_append, List.nil_append, List.length_cons, List.length_nil, List.replicate, List.getElem?_cons_zero, List.getElem?_cons_succ, Option.some.injEq, exists_eq_left', exists_eq_left, R.d.injEq, R.own.injEq, R.fr.injEq, List.set_cons_zero, List.set_cons_succ, addD, subD, mulDD, fdivD, modD, ltD, leD, gtD, geD, eqD, neD, isND, isnotND, inDD, notInDD, ixD, negD, lenD, absD, intD, min2D, max2D, listD, tupleD, slD, Nat.reduceAdd, Nat.reduceSub, Nat.add_zero, Nat.zero_add, true_and, and_true, ite_true, ite_false, if_true, if_false, Bool.false_eq_true, reduceIte, Option.some_inj, Bool.true_eq_false, tgW, tgWs, wipe3, List.set_nil])
      cases n with
      | zero => exact (s z hz).elim
      | succ n => exact ⟨z, rfl, s z hz, hk⟩
    · obtain ⟨bs, e1, e2⟩ := all_true (xs.map fun x => .tuple [x, x])
      exact ⟨bs, e1, by rw [e2]; exact h⟩
  cases x with
  | tuple xs =>
    have t0 : isTree (.tuple xs) .none = false := rfl
    have t1 : isTup (.tuple xs) = true := rfl
    have t2 : isLst (.tuple xs) = false := rfl
    (try simp only [wIzM, wWordV, wDc, wDn, wDGet, wDIn, wDNotIn, wDPut, wRetK, wFrzK, keyOf, R.dk.injEq, R.fk.injEq, wRev, neS, wSortLL, wSetIfO, ltDD, sortedDI, wIe, isDD, isnotDD, wPar2, sumDD, eqS, reprD, wV, wC, wNil, wCons, wTup, wLst, wOp, wUn, wCall, wT, wNot, wAnd, wOr, wB, wAndV, wOrV, wNotV, wIf, wIsi, wChain, wNo, wPart, wSl, wSet, wSetO, wTg, wPnil, wPcons, wPar, wNext, wSeq, wRet, wRetO, wRetN, wIfS, wBrk, wCnt, wDrop, wFrz, wApp, wExt, wSetIx, wAugIx, wAug, wRnil, wRcons, wFn, wRaise, wWord, wRetH, wSetIxH, wCount, wIndex, wIsE, wListRg1, wListRg2, wYes, wIs, wIz, wIl, wIt, wIr1, wIr2, wSlS, wPop, wAppPop, R.wk, R.st, R.ar, R.bl, R.no, R.sq, R.slot, setsR, startR, List.map_cons, List.map_nil, List.cons_append, List.nil_append, List.length_cons, List.length_nil, List.replicate, List.getElem?_cons_zero, List.getElem?_cons_succ, Option.some.injEq, exists_eq_left', exists_eq_left, R.d.injEq, R.own.injEq, R.fr.injEq, List.set_cons_zero, List.set_cons_succ, addD, subD, mulDD, fdivD, modD, ltD, leD, gtD, geD, eqD, neD, isND, isnotND, inDD, notInDD, ixD, negD, lenD, absD, intD, min2D, max2D, listD, tupleD, slD, Nat.reduceAdd, Nat.reduceSub, Nat.add_zero, Nat.zero_add, true_and, and_true, ite_true, ite_false, if_true, if_false, Bool.false_eq_true, reduceIte, Option.some_inj, Bool.true_eq_false, tgW, tgWs, wipe3, List.set_nil, w_law_is, wLc, t0, t1, t2, sh_b, eqv_bb, sh_i, eqv_ii, Bool.not_true, allD])
    exact go xs s _ rfl
  | list xs =>
    have t0 : isTree (.list xs) .none = false := rfl
    have t1 : isTup (.list xs) = false := rfl
    have t2 : isLst (.list xs) = true := rfl
    (try simp only [wIzM, wWordV, wDc, wDn, wDGet, wDIn, wDNotIn, wDPut, wRetK, wFrzK, keyOf, R.dk.injEq, R.fk.injEq, wRev, neS, wSortLL, wSetIfO, ltDD, sortedDI, wIe, isDD, isnotDD, wPar2, sumDD, eqS, reprD, wV, wC, wNil, wCons, wTup, wLst, wOp, wUn, wCall, wT, wNot, wAnd, wOr, wB, wAndV, wOrV, wNotV, wIf, wIsi, wChain, wNo, wPart, wSl, wSet, wSetO, wTg, wPnil, wPcons, wPar, wNext, wSeq, wRet, wRetO, wRetN, wIfS, wBrk, wCnt, wDrop, wFrz, wApp, wExt, wSetIx, wAugIx, wAug, wRnil, wRcons, wFn, wRaise, wWord, wRetH, wSetIxH, wCount, wIndex, wIsE, wListRg1, wListRg2, wYes, wIs, wIz, wIl, wIt, wIr1, wIr2, wSlS, wPop, wAppPop, R.wk, R.st, R.ar, R.bl, R.no, R.sq, R.slot, setsR, startR, List.map_cons, List.map_nil, List.cons_append, List.nil_append, List.length_cons, List.length_nil, List.replicate, List.getElem?_cons_zero, List.getElem?_cons_succ, Option.some.injEq, exists_eq_left', exists_eq_left, R.d.injEq, R.own.injEq, R.fr.injEq, List.set_cons_zero, List.set_cons_succ, addD, subD, mulDD, fdivD, modD, ltD, leD, gtD, geD, eqD, neD, isND, isnotND, inDD, notInDD, ixD, negD, lenD, absD, intD, min2D, max2D, listD, tupleD, slD, Nat.reduceAdd, Nat.reduceSub, Nat.add_zero, Nat.zero_add, true_and, and_true, ite_true, ite_false, if_true, if_false, Bool.false_eq_true, reduceIte, Option.some_inj, Bool.true_eq_false, tgW, tgWs, wipe3, List.set_nil, w_law_is, wLc, t0, t1, t2, sh_b, eqv_bb, sh_i, eqv_ii, Bool.not_true, allD])
    exact go xs s _ rfl
  | dict kvs => exact s.elim
  | none =>
    have t0 : isTree .none .none = true := rfl
    (try simp only [wIzM, wWordV, wDc, wDn, wDGet, wDIn, wDNotIn, wDPut, wRetK, wFrzK, keyOf, R.dk.injEq, R.fk.injEq, wRev, neS, wSortLL, wSetIfO, ltDD, sortedDI, wIe, isDD, isnotDD, wPar2, sumDD, eqS, reprD, wV, wC, wNil, wCons, wTup, wLst, wOp, wUn, wCall, wT, wNot, wAnd, wOr, wB, wAndV, wOrV, wNotV, wIf, wIsi, wChain, wNo, wPart, wSl, wSet, wSetO, wTg, wPnil, wPcons, wPar, wNext, wSeq, wRet, wRetO, wRetN, wIfS, wBrk, wCnt, wDrop, wFrz, wApp, wExt, wSetIx, wAugIx, wAug, wRnil, wRcons, wFn, wRaise, wWord, wRetH, wSetIxH, wCount, wIndex, wIsE, wListRg1, wListRg2, wYes, wIs, wIz, wIl, wIt, wIr1, wIr2, wSlS, wPop, wAppPop, R.wk, R.st, R.ar, R.bl, R.no, R.sq, R.slot, setsR, startR, List.map_cons, List.map_nil, List.cons_append, List.nil_append, List.length_cons, List.length_nil, List.replicate, List.getElem?_cons_zero, List.getElem?_cons_succ, Option.some.injEq, exists_eq_left', exists_eq_left, R.d.injEq, R.own.injEq, R.fr.injEq, List.set_cons_zero, List.set_cons_succ, addD, subD, mulDD, fdivD, modD, ltD, leD, gtD, geD, eqD, neD, isND, isnotND, inDD, notInDD, ixD, negD, lenD, absD, intD, min2D, max2D, listD, tupleD, slD, Nat.reduceAdd, Nat.reduceSub, Nat.add_zero, Nat.zero_add, true_and, and_true, ite_true, ite_false, if_true, if_false, Bool.false_eq_true, reduceIte, Option.some_inj, Bool.true_eq_false, tgW, tgWs, wipe3, List.set_nil, w_law_is, t0])
    exact h
  | bool b =>
    have t0 : isTree (.bool b) .none = false := rfl
    have t1 : isTup (.bool b) = false := rfl
    have t2 : isLst (.bool b) = false := rfl
    (try simp only [wIzM, wWordV, wDc, wDn, wDGet, wDIn, wDNotIn, wDPut, wRetK, wFrzK, keyOf, R.dk.injEq, R.fk.injEq, wRev, neS, wSortLL, wSetIfO, ltDD, sortedDI, wIe, isDD, isnotDD, wPar2, sumDD, eqS, reprD, wV, wC, wNil, wCons, wTup, wLst, wOp, wUn, wCall, wT, wNot, wAnd, wOr, wB, wAndV, wOrV, wNotV, wIf, wIsi, wChain, wNo, wPart, wSl, wSet, wSetO, wTg, wPnil, wPcons, wPar, wNext, wSeq, wRet, wRetO, wRetN, wIfS, wBrk, wCnt, wDrop, wFrz, wApp, wExt, wSetIx, wAugIx, wAug, wRnil, wRcons, wFn, wRaise, wWord, wRetH, wSetIxH, wCount, wIndex, wIsE, wListRg1, wListRg2, wYes, wIs, wIz, wIl, wIt, wIr1, wIr2, wSlS, wPop, wAppPop, R.wk, R.st, R.ar, R.bl, R.no, R.sq, R.slot, setsR, startR, List.map_cons, List.map_nil, List.cons_append, List.nil_append, List.length_cons, List.length_nil, List.replicate, List.getElem?_cons_zero, List.getElem?_cons_succ, Option.some.injEq, exists_eq_left', exists_eq_left, R.d.injEq, R.own.injEq, R.fr.injEq, List.set_cons_zero, List.set_cons_succ, addD, subD, mulDD, fdivD, modD, ltD, leD, gtD, geD, eqD, neD, isND, isnotND, inDD, notInDD, ixD, negD, lenD, absD, intD, min2D, max2D, listD, tupleD, slD, Nat.reduceAdd, Nat.reduceSub, Nat.add_zero, Nat.zero_add, true_and, and_true, ite_true, ite_false, if_true, if_false, Bool.false_eq_true, reduceIte, Option.some_inj, Bool.true_eq_false, tgW, tgWs, wipe3, List.set_nil, w_law_is, t0, t1, t2, sh_b, eqv_bb, Bool.not_true])
    exact h
  | int i =>
    have t0 : isTree (.int i) .none = false := rfl
    have t1 : isTup (.int i) = false := rfl
    have t2 : isLst (.int i) = false := rfl
    (try simp only [wIzM, wWordV, wDc, wDn, wDGet, wDIn, wDNotIn, wDPut, wRetK, wFrzK, keyOf, R.dk.injEq, R.fk.injEq, wRev, neS, wSortLL, wSetIfO, ltDD, sortedDI, wIe, isDD, isnotDD, wPar2, sumDD, eqS, reprD, wV, wC, wNil, wCons, wTup, wLst, wOp, wUn, wCall, wT, wNot, wAnd, wOr, wB, wAndV, wOrV, wNotV, wIf, wIsi, wChain, wNo, wPart, wSl, wSet, wSetO, wTg, wPnil, wPcons, wPar, wNext, wSeq, wRet, wRetO, wRetN, wIfS, wBrk, wCnt, wDrop, wFrz, wApp, wExt, wSetIx, wAugIx, wAug, wRnil, wRcons, wFn, wRaise, wWord, wRetH, wSetIxH, wCount, wIndex, wIsE, wListRg1, wListRg2, wYes, wIs, wIz, wIl, wIt, wIr1, wIr2, wSlS, wPop, wAppPop, R.wk, R.st, R.ar, R.bl, R.no, R.sq, R.slot, setsR, startR, List.map_cons, List.map_nil, List.cons_append, List.nil_append, List.length_cons, List.length_nil, List.replicate, List.getElem?_cons_zero, List.getElem?_cons_succ, Option.some.injEq, exists_eq_left', exists_eq_left, R.d.injEq, R.own.injEq, R.fr.injEq, List.set_cons_zero, List.set_cons_succ, addD, subD, mulDD, fdivD, modD, ltD, leD, gtD, geD, eqD, neD, isND, isnotND, inDD, notInDD, ixD, negD, lenD, absD, intD, min2D, max2D, listD, tupleD, slD, Nat.reduceAdd, Nat.reduceSub, Nat.add_zero, Nat.zero_add, true_and, and_true, ite_true, ite_false, if_true, if_false, Bool.false_eq_true, reduceIte, Option.some_inj, Bool.true_eq_false, tgW, tgWs, wipe3, List.set_nil, w_law_is, t0, t1, t2, sh_b, sh_i, eqv_bb, eqv_ii, Bool.not_true])
    exact h
  | str t =>
    have t0 : isTree (.str t) .none = false := rfl
    have t1 : isTup (.str t) = false := rfl
    have t2 : isLst (.str t) = false := rfl
    have s' : SeqAt.shaped (.str t) = true := s
    (try simp only [wIzM, wWordV, wDc, wDn, wDGet, wDIn, wDNotIn, wDPut, wRetK, wFrzK, keyOf, R.dk.injEq, R.fk.injEq, wRev, neS, wSortLL, wSetIfO, ltDD, sortedDI, wIe, isDD, isnotDD, wPar2, sumDD, eqS, reprD, wV, wC, wNil, wCons, wTup, wLst, wOp, wUn, wCall, wT, wNot, wAnd, wOr, wB, wAndV, wOrV, wNotV, wIf, wIsi, wChain, wNo, wPart, wSl, wSet, wSetO, wTg, wPnil, wPcons, wPar, wNext, wSeq, wRet, wRetO, wRetN, wIfS, wBrk, wCnt, wDrop, wFrz, wApp, wExt, wSetIx, wAugIx, wAug, wRnil, wRcons, wFn, wRaise, wWord, wRetH, wSetIxH, wCount, wIndex, wIsE, wListRg1, wListRg2, wYes, wIs, wIz, wIl, wIt, wIr1, wIr2, wSlS, wPop, wAppPop, R.wk, R.st, R.ar, R.bl, R.no, R.sq, R.slot, setsR, startR, List.map_cons, List.map_nil, List.cons_append, List.nil_append, List.length_cons, List.length_nil, List.replicate, List.getElem?_cons_zero, List.getElem?_cons_succ, Option.some.injEq, exists_eq_left', exists_eq_left, R.d.injEq, R.own.injEq, R.fr.injEq, List.set_cons_zero, List.set_cons_succ, addD, subD, mulDD, fdivD, modD, ltD, leD, gtD, geD, eqD, neD, isND, isnotND, inDD, notInDD, ixD, negD, lenD, absD, intD, min2D, max2D, listD, tupleD, slD, Nat.reduceAdd, Nat.reduceSub, Nat.add_zero, Nat.zero_add, true_and, and_true, ite_true, ite_false, if_true, if_false, Bool.false_eq_true, reduceIte, Option.some_inj, Bool.true_eq_false, tgW, tgWs, wipe3, List.set_nil, w_law_is, t0, t1, t2, sh_b, s', eqv_ss, eqv_bb, Bool.not_true])
    exact h
theorem okR_law_is (D : Txt K mg base T) : ∀ n : Nat, Cal false P w K mg base T (1 + n) "_law_is" (CR_law_is n)
  | 0 => cal_none D.d_law_is bi_law_is
  | n + 1 => cal_of (wb := w_law_is (CR_law_is n)) D.d_law_is sc_law_is bi_law_is (l_law_is n) (fun f cdv A outer s H E hp hr hgd => have ih := okR_law_is D n; ess_cons (es_if (PW.pt (ew_or (et_cmp op_isDD (ev_var (pv 1)) (ev_non) (nomark _)) (ew_or1 (et_cmp op_isDD (ev_var (pv 0)) (ev_non) (nomark _))))) (ess_one (es_ret (ev_and (ev_cmp op_isDD (ev_var (pv 1)) (ev_non) (nomark _)) (ev_one (ev_cmp op_isDD (ev_var (pv 0)) (ev_non) (nomark _)))))) (ess_nil)) (ess_cons (es_if (PW.pt (ew_or (et_val (ev_isi kit_tup rfl D.n_isinstance bb_isinstance (ev_var (pv 1)) (pe_bltn rfl D.n_tuple bb_tuple rfl))) (ew_or1 (et_val (ev_isi kit_lst rfl D.n_isinstance bb_isinstance (ev_var (pv 1)) (pe_bltn rfl D.n_list bb_list rfl)))))) (ess_cons (es_if (et_cmp (op_neT (u64 hr)) (ev_isi kit_tup rfl D.n_isinstance bb_isinstance (ev_var (pv 0)) (pe_bltn rfl D.n_tuple bb_tuple rfl)) (ev_isi kit_tup rfl D.n_isinstance bb_isinstance (ev_var (pv 1)) (pe_bltn rfl D.n_tuple bb_tuple rfl)) (nomark _)) (ess_one (es_ret (ev_bl))) (ess_nil)) (ess_cons (es_if (et_cmp (op_neT (u64 hr)) (ev_isi kit_lst rfl D.n_isinstance bb_isinstance (ev_var (pv 0)) (pe_bltn rfl D.n_list bb_list rfl)) (ev_isi kit_lst rfl D.n_isinstance bb_isinstance (ev_var (pv 1)) (pe_bltn rfl D.n_list bb_list rfl)) (nomark _)) (ess_one (es_ret (ev_bl))) (ess_nil)) (ess_one (es_ret (ev_and (ev_cmp (op_eqT (u64 hr)) (ev_callB cr_len rfl D.n_len bb_len (el_cons selW (ev_var (pv 0)) (el_nil))) (ev_callB cr_len rfl D.n_len bb_len (el_cons selW (ev_var (pv 1)) (el_nil))) (nomark _)) (ev_one (ev_callB (cr_allD rfl) rfl D.n_all bb_all (el_cons selW (ev_lc (own := [("one", 2), ("other", 3)]) (g := .tup [.one 2, .one 3]) rfl sc_law_is.nd (ei_zip rfl D.n_zip (ev_var (pv 0)) (ev_var (pv 1))) (blkOk_by (N := N_law_is) (sc := defScope s_law_is) (by decide +kernel)) (by decide) (fun _ _ _ _ _ => pg_tup rfl (pgs_cons (pg_name (i := 2) sc_law_is.nd rfl (Or.inl rfl)) (pgs_cons (pg_name (i := 3) sc_law_is.nd rfl (Or.inl rfl)) (pgs_nil)))) (fun _ _ _ _ _ => eb_yes) (fun _ _ _ _ _ => ev_fnC ih hr (Nat.le_refl _) (fun h => by cases h) rfl passL (er_cons (ev_var (pv 2)) (er_cons (ev_var (pv 3)) (er_nil))))) (el_nil))))))))) (ess_nil)) (ess_cons (es_if (PW.pt (ew_or (et_cmp (op_neT (u64 hr)) (ev_isi kit_bool rfl D.n_isinstance bb_isinstance (ev_var (pv 0)) (pe_bltn rfl D.n_bool bb_bool rfl)) (ev_isi kit_bool rfl D.n_isinstance bb_isinstance (ev_var (pv 1)) (pe_bltn rfl D.n_bool bb_bool rfl)) (nomark _)) (ew_or1 (et_cmp (op_neT (u64 hr)) (ev_isi kit_int rfl D.n_isinstance bb_isinstance (ev_var (pv 0)) (pe_bltn rfl D.n_int bb_int rfl)) (ev_isi kit_int rfl D.n_isinstance bb_isinstance (ev_var (pv 1)) (pe_bltn rfl D.n_int bb_int rfl)) (nomark _))))) (ess_one (es_ret (ev_bl))) (ess_nil)) (ess_one (es_ret (ev_and (ev_cmp (op_eqT (u64 hr)) (ev_isi kit_str rfl D.n_isinstance bb_isinstance (ev_var (pv 0)) (pe_bltn rfl D.n_str bb_str rfl)) (ev_isi kit_str rfl D.n_isinstance bb_isinstance (ev_var (pv 1)) (pe_bltn rfl D.n_str bb_str rfl)) (nomark _)) (ev_one (ev_cmp (op_eqT (u64 hr)) (ev_var (pv 0)) (ev_var (pv 1)) (nomark _))))))))) (p_law_is n)
abbrev C_law_is : Ct := CR_law_is 4
theorem ok_law_is (D : Txt K mg base T) : Cal false P w K mg base T 5 "_law_is" C_law_is := okR_law_is D 4
/-! ### _law_word -/
abbrev N_law_word : List Str := ["call", "found", "e", "flags"]
theorem sc_law_word : FnScope N_law_word ["call"] (defScope s_law_word) := ⟨rfl, rfl, rfl, by decide +kernel, rfl, by decide +kernel, by decide +kernel⟩
theorem bi_law_word : BindsBy "_law_word" s_law_word ["call"] := fun _ _ _ _ _ _ us hl => match us, hl with | [_], _ => rfl
theorem va_law_word : Vis (defScope s_law_word) "call" := by first | exact Or.inl rfl | exact Or.inr (Or.inl rfl)
def told_law_word : Str := "!other"
def ws_law_word (a : Addr) (y : Exc) : WS := wSeq (wSet 3 (wLst (wCons R.st (wIsE 2 a (isa y.name "NoDish")) (wCons R.st (wIsE 2 a (isa y.name "NoOrder")) (wNil))))) (wIfS (wAnd (wT (wOp eqD (wCount (wV 3) (wC (.bool true))) (wC (.int 1)))) (wT (wIsE 2 a true))) (wSet 1 (wOp ixD (wLst (wCons R.st (wC (.str "!NoDish")) (wCons R.st (wC (.str "!NoOrder")) (wNil)))) (wIndex (wV 3) (wC (.bool true))))) (wNext))
def wd_law_word (x : Exc) : Option Str := match x.arg with
  | some _ => none
  | none => if x.name = "NoDish" then some "!NoDish" else if x.name = "NoOrder" then some "!NoOrder" else none
theorem wd_arg_law_word {y : Exc} {z : Str} (h : wd_law_word y = some z) : y.arg = none := by
  unfold wd_law_word at h
  split at h
  · cases h
  · assumption
theorem wd_cases {y : Exc} {z : Str} (h : wd_law_word y = some z) : (y.name = "NoDish" ∧ z = "!NoDish") ∨ (y.name = "NoOrder" ∧ z = "!NoOrder") := by
  unfold wd_law_word at h
  split at h
  · cases h
  · by_cases h1 : y.name = "NoDish"
    · rw [if_pos h1] at h
      cases h
      exact .inl ⟨h1, rfl⟩
    · rw [if_neg h1] at h
      by_cases h2 : y.name = "NoOrder"
      · rw [if_pos h2] at h
        cases h
        exact .inr ⟨h2, rfl⟩
      · rw [if_neg h2] at h
        cases h
theorem wd_err_law_word {y : Exc} {z : Str} (h : wd_law_word y = some z) : y.name ∈ errL := by
  rcases wd_cases h with ⟨e, _⟩ | ⟨e, _⟩ <;> rw [e] <;> decide +kernel
theorem p_law_word : ∀ (a : Addr) (y : Exc) (z : Str), wd_law_word y = some z → ws_law_word a y { nx := fun ρ => ρ[1]? = some (some (.d (.str z))), rt := fun _ => False } (errR N_law_word.length 2 a) noX := by
  intro a y z h
  have e0 : errR N_law_word.length 2 a = [none, none, some (.adr a), none] := rfl
  rw [e0]
  rcases wd_cases h with ⟨e, rfl⟩ | ⟨e, rfl⟩
  · have f1 : isa y.name "NoDish" = true := by rw [e]; decide +kernel
    have f2 : isa y.name "NoOrder" = false := by rw [e]; decide +kernel
    (try simp only [wIzM, wWordV, wDc, wDn, wDGet, wDIn, wDNotIn, wDPut, wRetK, wFrzK, keyOf, R.dk.injEq, R.fk.injEq, wRev, neS, wSortLL, wSetIfO, ltDD, sortedDI, wIe, isDD, isnotDD, wPar2, sumDD, eqS, reprD, wV, wC, wNil, wCons, wTup, wLst, wOp, wUn, wCall, wT, wNot, wAnd, wOr, wB, wAndV, wOrV, wNotV, wIf, wIsi, wChain, wNo, wPart, wSl, wSet, wSetO, wTg, wPnil, wPcons, wPar, wNext, wSeq, wRet, wRetO, wRetN, wIfS, wBrk, wCnt, wDrop, wFrz, wApp, wExt, wSetIx, wAugIx, wAug, wRnil, wRcons, wFn, wRaise, wWord, wRetH, wSetIxH, wCount, wIndex, wIsE, wListRg1, wListRg2, wYes, wIs, wIz, wIl, wIt, wIr1, wIr2, wSlS, wPop, wAppPop, R.wk, R.st, R.ar, R.bl, R.no, R.sq, R.slot, setsR, startR, List.map_cons, List.map_nil, List.cons_append, List.nil_append, List.length_cons, List.length_nil, List.replicate, List.getElem?_cons_zero, List.getElem?_cons_succ, Option.some.injEq, exists_eq_left', exists_eq_left, R.d.injEq, R.own.injEq, R.fr.injEq, List.set_cons_zero, List.set_cons_succ, addD, subD, mulDD, fdivD, modD, ltD, leD, gtD, geD, eqD, neD, isND, isnotND, inDD, notInDD, ixD, negD, lenD, absD, intD, min2D, max2D, listD, tupleD, slD, Nat.reduceAdd, Nat.reduceSub, Nat.add_zero, Nat.zero_add, true_and, and_true, ite_true, ite_false, if_true, if_false, Bool.false_eq_true, reduceIte, Option.some_inj, Bool.true_eq_false, tgW, tgWs, wipe3, List.set_nil, ws_law_word, f1, f2, R.adr.injEq])
    refine ⟨rfl, rfl, rfl, rfl, rfl, ?_⟩
    refine ⟨rfl, 0, _, rfl, by decide +kernel, fun m z' hm e => ?_, _, at0 _ _, rfl⟩
    omega
  · have f1 : isa y.name "NoDish" = false := by rw [e]; decide +kernel
    have f2 : isa y.name "NoOrder" = true := by rw [e]; decide +kernel
    (try simp only [wIzM, wWordV, wDc, wDn, wDGet, wDIn, wDNotIn, wDPut, wRetK, wFrzK, keyOf, R.dk.injEq, R.fk.injEq, wRev, neS, wSortLL, wSetIfO, ltDD, sortedDI, wIe, isDD, isnotDD, wPar2, sumDD, eqS, reprD, wV, wC, wNil, wCons, wTup, wLst, wOp, wUn, wCall, wT, wNot, wAnd, wOr, wB, wAndV, wOrV, wNotV, wIf, wIsi, wChain, wNo, wPart, wSl, wSet, wSetO, wTg, wPnil, wPcons, wPar, wNext, wSeq, wRet, wRetO, wRetN, wIfS, wBrk, wCnt, wDrop, wFrz, wApp, wExt, wSetIx, wAugIx, wAug, wRnil, wRcons, wFn, wRaise, wWord, wRetH, wSetIxH, wCount, wIndex, wIsE, wListRg1, wListRg2, wYes, wIs, wIz, wIl, wIt, wIr1, wIr2, wSlS, wPop, wAppPop, R.wk, R.st, R.ar, R.bl, R.no, R.sq, R.slot, setsR, startR, List.map_cons, List.map_nil, List.cons_append, List.nil_append, List.length_cons, List.length_nil, List.replicate, List.getElem?_cons_zero, List.getElem?_cons_succ, Option.some.injEq, exists_eq_left', exists_eq_left, R.d.injEq, R.own.injEq, R.fr.injEq, List.set_cons_zero, List.set_cons_succ, addD, subD, mulDD, fdivD, modD, ltD, leD, gtD, geD, eqD, neD, isND, isnotND, inDD, notInDD, ixD, negD, lenD, absD, intD, min2D, max2D, listD, tupleD, slD, Nat.reduceAdd, Nat.reduceSub, Nat.add_zero, Nat.zero_add, true_and, and_true, ite_true, ite_false, if_true, if_false, Bool.false_eq_true, reduceIte, Option.some_inj, Bool.true_eq_false, tgW, tgWs, wipe3, List.set_nil, ws_law_word, f1, f2, R.adr.injEq])
    refine ⟨rfl, rfl, rfl, rfl, rfl, ?_⟩
    refine ⟨rfl, 1, _, rfl, by decide +kernel, fun m z' hm e => ?_, _, at1 _ _ _, rfl⟩
    obtain rfl := (by omega : m = 0)
    cases e
    rfl
theorem gv_law_word {X : Cx} {T : List (Addr × Str)} {k : Nat} {q : Str} (D : Txt X.K X.mg X.base T) (hr : Room k X.A) : ∀ g cdv, GivesTo X N_law_word "_law_word" (defScope s_law_word) g cdv (defBody s_law_word) "call" q (TWordV (pm X T) wd_law_word) := by
  intro g cdv
  obtain ⟨C_KitchenError, g_KitchenError⟩ := D.k_KitchenError
  obtain ⟨C_NoDish, g_NoDish⟩ := D.k_NoDish
  obtain ⟨C_NoOrder, g_NoOrder⟩ := D.k_NoOrder
  refine word_val (CK := C_KitchenError) (i := 2) (w := 1) (ws := ws_law_word) sc_law_word.nd rfl (by decide) (by decide) (by first | exact Or.inl rfl | exact Or.inr rfl) (by decide) (by decide) (fun s H => (by first | exact Or.inl rfl | exact Or.inr rfl)) rfl (fun s H => rfl) rfl (by decide) g_KitchenError (fun f => rfl) (fun s H a oe cls d pn hz hf y hy => ?_) (fun y z C hz hC => ?_) (fun y z hz => wd_arg_law_word hz) (fun a y z hz => p_law_word a y z hz)
  · obtain ⟨⟨z, hz'⟩, _, C, hC, rfl, rfl⟩ := hy
    obtain ⟨C', CK', e1, e2, F1, F2, F3, F4'⟩ := (D.errs y.name (wd_err_law_word hz')).ex
    have e3 := hC.symm.trans e1
    cases e3
    have F4 : ∀ (n : Str) (Y : Addr), n ∈ clsL → X.mg n = some (.ref Y) → PySem.W.kitOne X.K (.ref C) (.ref Y) = some (isa y.name n) := fun n Y hn hY => (F4' (n, isa y.name n) (List.mem_map.mpr ⟨n, hn, rfl⟩) Y hY).1
    have hu : ((wCx X N_law_word "_law_word" (defScope s_law_word) g cdv s H).suite a ((a, oe) :: pn)).A.units + 65 < cLine := by
      have z := hr.un
      show X.A.units + 3 + 65 < cLine
      omega
    have hu64 : ((wCx X N_law_word "_law_word" (defScope s_law_word) g cdv s H).suite a ((a, oe) :: pn)).A.units + 64 < cLine := by omega
    exact ess_cons (es_set (i := 3) sc_law_word.nd rfl (by first | exact Or.inl rfl | exact Or.inr rfl) (ev_lst (el_cons selS (ev_isE F1 hz hf rfl D.n_isinstance (pv 2) (pe_cls rfl g_NoDish) (fun _ h => h) (F4 "NoDish" _ (by decide +kernel) g_NoDish)) (el_cons selS (ev_isE F1 hz hf rfl D.n_isinstance (pv 2) (pe_cls rfl g_NoOrder) (fun _ h => h) (F4 "NoOrder" _ (by decide +kernel) g_NoOrder)) (el_nil))))) (ess_one (es_if (PW.pt (ew_and (et_cmp (op_eqT hu64) (ev_count hu (ev_var (pv 3)) (ev_bl)) (ev_int) (nomark _)) (ew_and1 (et_val (ev_isE F1 hz hf rfl D.n_isinstance (pv 2) (pe_ve rfl D.n_ValueError) (fun _ h => h) F3))))) (ess_one (es_set (i := 1) sc_law_word.nd rfl (by first | exact Or.inl rfl | exact Or.inr rfl) (ev_ix ix_D (ev_lst (el_cons selS (ev_str) (el_cons selS (ev_str) (el_nil)))) (ev_index hu (ev_var (pv 3)) (ev_bl)) (fun _ _ => rfl)))) (ess_nil)))
  · obtain ⟨C', CK', e1, e2, F1, F2, F3, F4'⟩ := (D.errs y.name (wd_err_law_word hz)).ex
    have e3 := hC.symm.trans e1
    cases e3
    have e4 := g_KitchenError.symm.trans e2
    cases e4
    exact F2
/-! ### _law_dish -/
abbrev N_law_dish : List Str := ["hand", "most", "wide", "many", "pool", "order", "share", "found", "step", "ahead", "waits", "one"]
theorem sc_law_dish : FnScope N_law_dish ["hand", "most", "wide"] (defScope s_law_dish) := ⟨rfl, rfl, rfl, by decide +kernel, rfl, by decide +kernel, by decide +kernel⟩
theorem bi_law_dish : BindsBy "_law_dish" s_law_dish ["hand", "most", "wide"] := fun _ _ _ _ _ _ us hl => match us, hl with | [_, _, _], _ => rfl
def b1_law_dish : WS := wAppPop 5 4 (wFn C_law_draw (wRcons (wV 0) (wRcons (wCall lenD (wCons R.wk (wV 4) (wNil))) (wRnil))))
def b2_law_dish_2 : WS := wApp 7 (wTup (wCons R.st (wOp addD (wC (.int 1)) (wFn C_law_draw (wRcons (wV 0) (wRcons (wV 2) (wRnil))))) (wCons R.st (wCall tupleD (wCons R.wk (wV 10) (wNil))) (wNil))))
def b2_law_dish_1 : WS := wSeq (wSet 10 (wCall sortedDI (wCons R.wk (wLc (wIs (wV 9)) (.one 11) (wT (wOp eqD (wFn C_law_draw (wRcons (wV 0) (wRcons (wV 6) (wRnil)))) (wC (.int 0)))) (wV 11) [11]) (wNil)))) (b2_law_dish_2)
def b2_law_dish : WS := wSeq (wSet 9 (wSl (wV 5) wNo (wPart (wIndex (wV 5) (wV 8))))) (b2_law_dish_1)
def w_law_dish_5 : WS := wRet (wCall tupleD (wCons R.wk (wV 7) (wNil)))
def w_law_dish_4 : WS := wSeq (wFor (wIr1 (wV 3)) (.one 8) (b2_law_dish)) (w_law_dish_5)
def w_law_dish_3 : WS := wSeq (wPar [6, 7] (wPcons false (wFn C_law_any (wRcons (wV 0) (wRcons (wLst (wCons R.st (wC (.int 2)) (wCons R.st (wC (.int 3)) (wCons R.st (wC (.int 4)) (wNil))))) (wRnil)))) (wPcons true (wLst (wNil)) (wPnil)))) (w_law_dish_4)
def w_law_dish_2 : WS := wSeq (wWhile (wT (wOp gtD (wCall lenD (wCons R.wk (wV 4) (wNil))) (wC (.int 0)))) (b1_law_dish)) (w_law_dish_3)
def w_law_dish_1 : WS := wSeq (wPar [4, 5] (wPcons true (wListRg1 (wV 3)) (wPcons true (wLst (wNil)) (wPnil)))) (w_law_dish_2)
def w_law_dish : WS := wSeq (wSet 3 (wOp addD (wC (.int 1)) (wFn C_law_draw (wRcons (wV 0) (wRcons (wV 1) (wRnil)))))) (w_law_dish_1)
-- splitall
def PStep (o : List Nat) (i : Nat) (p : St) : Prop := 1 ≤ p.1 ∧ p.1 ≤ 600 ∧ risesB ((natI p.2).map .int) = true ∧ ∀ w ∈ p.2, w ∈ o.take (o.idxOf i)
theorem idx_take {o : List Nat} {w : Nat} : ∀ {j : Nat}, w ∈ o.take j → o.idxOf w < j := by
  induction o with
  | nil => intro j h; simp at h
  | cons x o ih =>
    intro j h
    cases j with
    | zero => simp at h
    | succ j =>
      rw [List.take_succ_cons] at h
      rw [List.idxOf_cons]
      by_cases c : x = w
      · subst c
        simp
      · rcases List.mem_cons.mp h with e | h
        · exact absurd e.symm c
        · have := ih h
          have e : (x == w) = false := by simpa using c
          rw [e]
          simp
          omega
theorem drawn_good {o : List Nat} {ss : List St} (hp : o.Perm (List.range ss.length)) (n1 : 1 ≤ ss.length) (n8 : ss.length ≤ 8) (h : ∀ (i : Nat) (p : St), ss[i]? = some p → PStep o i p) : GoodD ss ∧ (ordL ss).length = ss.length := by
  have mem : ∀ i, i ∈ o ↔ i < ss.length := fun i => by rw [hp.mem_iff, List.mem_range]
  refine ⟨⟨n1, by omega, fun i p e => ?_⟩, ?_⟩
  · obtain ⟨a, b, c, d⟩ := h i p e
    exact ⟨a, b, fun w hw => (mem w).mp (List.mem_of_mem_take (d w hw)), c, fun hi => Nat.lt_irrefl _ (idx_take (d i hi))⟩
  · refine full_len (r := fun i => o.idxOf i) ⟨fun i hi => ?_, fun i hi w hw => ?_⟩
    · have := List.idxOf_lt_length_of_mem ((mem i).mpr hi)
      rw [hp.length_eq, List.length_range] at this
      exact this
    · have z := h i _ (List.getElem?_eq_getElem hi)
      have e : Wf ss i = (ss[i]).2 := by
        unfold Wf
        rw [List.getD_eq_getElem?_getD, List.getElem?_eq_getElem hi]
        rfl
      rw [e] at hw
      have zw := z.2.2.2 w hw
      exact ⟨(mem w).mp (List.mem_of_mem_take zw), idx_take zw⟩
def C_law_dish : Ct := fun rs Q _ => ∃ wide : Int, rs = [.hand L_hand, .d (.int 8), .d (.int wide)] ∧ 1 ≤ wide ∧ wide ≤ 600 ∧ ∀ ss, GoodD ss → ss.length ≤ 8 → (ordL ss).length = ss.length → Q (.d (dsD ss))
theorem l_law_dish : ∀ rs Q X, C_law_dish rs Q X → rs.length = 3 := by
  rintro rs Q X ⟨_, rfl, _⟩
  rfl
theorem any_some {xs : List PyData} {Q : R → Prop} {X : Exc → Prop} (h1 : 0 < xs.length) (h2 : xs.length < 1073741824) (h : ∀ x ∈ xs, Q (.d x)) : C_law_any [.hand L_hand, .d (.list xs)] Q X := ⟨xs, rfl, h1, h2, h⟩
theorem er_perm {α : Type} : ∀ {l : List α} {j : Nat} {x : α}, l[j]? = some x → (x :: l.eraseIdx j).Perm l
  | [], _, _, h => by simp at h
  | y :: l, 0, x, h => by
    simp at h
    rw [h]
    exact List.Perm.refl _
  | y :: l, j + 1, x, h => by
    have ih := er_perm (l := l) (j := j) (x := x) (by simpa using h)
    rw [List.eraseIdx_cons_succ]
    exact (List.Perm.swap y x _).trans (List.Perm.cons y ih)
theorem er_map {α β : Type} (f : α → β) : ∀ (l : List α) (j : Nat), (l.map f).eraseIdx j = (l.eraseIdx j).map f
  | [], _ => rfl
  | y :: l, 0 => rfl
  | y :: l, j + 1 => by rw [List.map_cons, List.eraseIdx_cons_succ, List.eraseIdx_cons_succ, List.map_cons, er_map f l j]
theorem idx_le_of {o : List Nat} {x : Nat} : ∀ {m : Nat} (h : m < o.length), o[m] = x → o.idxOf x ≤ m := by
  induction o with
  | nil => intro m h; simp at h
  | cons y o ih =>
    intro m h e
    rw [List.idxOf_cons]
    cases m with
    | zero =>
      have : y = x := e
      subst this
      simp
    | succ m =>
      have := ih (m := m) (by simpa using h) (by simpa using e)
      by_cases c : (y == x) = true
      · rw [c]
        simp
      · rw [Bool.not_eq_true] at c
        rw [c]
        simp
        omega
theorem rg_if {t n : Nat} {x : PyData} {rest : List PyData} (e : x :: rest = rgD t n) : t < n ∧ x = .int t ∧ rest = rgD ((t + 1 : Nat) : Int) n := by
  have c : t < n := by
    rcases Nat.lt_or_ge t n with c | c
    · exact c
    · rw [rgD_end (by omega)] at e
      cases e
  rw [rgD_step (by omega)] at e
  injection e with e1 e2
  exact ⟨c, e1, by rw [e2]; simp⟩
theorem rg_nil {t n : Nat} (e : [] = rgD t n) : n ≤ t := by
  rcases Nat.lt_or_ge t n with c | c
  · rw [rgD_step (by omega)] at e
    cases e
  · exact c
theorem rises_of : ∀ {ns : List Int}, ns.Pairwise (· < ·) → risesB (ns.map PyData.int) = true
  | [], _ => rfl
  | [p], _ => rfl
  | p :: q :: r, h => by
    obtain ⟨h1, h2⟩ := List.pairwise_cons.mp h
    have e := rises_of h2
    show (decide (p < q) && risesB ((q :: r).map PyData.int)) = true
    rw [e, decide_eq_true (h1 q List.mem_cons_self)]
    rfl
theorem nat_nd : ∀ {ws : List Nat}, ws.Nodup → (natI ws).Nodup
  | [], _ => List.nodup_nil
  | w :: ws, h => by
    obtain ⟨a, b⟩ := List.nodup_cons.mp h
    exact List.nodup_cons.mpr ⟨fun c => a (nat_mem.mp c), nat_nd b⟩
theorem p_law_dish : ∀ rs Q X, C_law_dish rs Q X → w_law_dish ⟨fun _ => Q (.d .none), Q, fun _ => False, fun _ => False⟩ (startR N_law_dish rs) X := by
  rintro rs Q X ⟨wide, rfl, w1, w6, h⟩
  have hz := sizeLine_eq
  (try simp only [wIzM, wWordV, wDc, wDn, wDGet, wDIn, wDNotIn, wDPut, wRetK, wFrzK, keyOf, R.dk.injEq, R.fk.injEq, wRev, neS, wSortLL, wSetIfO, ltDD, sortedDI, wIe, isDD, isnotDD, wPar2, sumDD, eqS, reprD, wV, wC, wNil, wCons, wTup, wLst, wOp, wUn, wCall, wT, wNot, wAnd, wOr, wB, wAndV, wOrV, wNotV, wIf, wIsi, wChain, wNo, wPart, wSl, wSet, wSetO, wTg, wPnil, wPcons, wPar, wNext, wSeq, wRet, wRetO, wRetN, wIfS, wBrk, wCnt, wDrop, wFrz, wApp, wExt, wSetIx, wAugIx, wAug, wRnil, wRcons, wFn, wRaise, wWord, wRetH, wSetIxH, wCount, wIndex, wIsE, wListRg1, wListRg2, wYes, wIs, wIz, wIl, wIt, wIr1, wIr2, wSlS, wPop, wAppPop, R.wk, R.st, R.ar, R.bl, R.no, R.sq, R.slot, setsR, startR, List.map_cons, List.map_nil, List.cons_append, List.nil_append, List.length_cons, List.length_nil, List.replicate, List.getElem?_cons_zero, List.getElem?_cons_succ, Option.some.injEq, exists_eq_left', exists_eq_left, R.d.injEq, R.own.injEq, R.fr.injEq, List.set_cons_zero, List.set_cons_succ, addD, subD, mulDD, fdivD, modD, ltD, leD, gtD, geD, eqD, neD, isND, isnotND, inDD, notInDD, ixD, negD, lenD, absD, intD, min2D, max2D, listD, tupleD, slD, Nat.reduceAdd, Nat.reduceSub, Nat.add_zero, Nat.zero_add, true_and, and_true, ite_true, ite_false, if_true, if_false, Bool.false_eq_true, reduceIte, Option.some_inj, Bool.true_eq_false, tgW, tgWs, wipe3, List.set_nil, w_law_dish, w_law_dish_1, w_law_dish_2, C_law_draw, C_draw])
  refine ⟨8, rfl, by decide, by decide, fun k k0 k1 => ?_⟩
  obtain ⟨n, hn⟩ : ∃ n : Nat, 1 + k = n := ⟨(1 + k).toNat, by omega⟩
  (try simp only [wIzM, wWordV, wDc, wDn, wDGet, wDIn, wDNotIn, wDPut, wRetK, wFrzK, keyOf, R.dk.injEq, R.fk.injEq, wRev, neS, wSortLL, wSetIfO, ltDD, sortedDI, wIe, isDD, isnotDD, wPar2, sumDD, eqS, reprD, wV, wC, wNil, wCons, wTup, wLst, wOp, wUn, wCall, wT, wNot, wAnd, wOr, wB, wAndV, wOrV, wNotV, wIf, wIsi, wChain, wNo, wPart, wSl, wSet, wSetO, wTg, wPnil, wPcons, wPar, wNext, wSeq, wRet, wRetO, wRetN, wIfS, wBrk, wCnt, wDrop, wFrz, wApp, wExt, wSetIx, wAugIx, wAug, wRnil, wRcons, wFn, wRaise, wWord, wRetH, wSetIxH, wCount, wIndex, wIsE, wListRg1, wListRg2, wYes, wIs, wIz, wIl, wIt, wIr1, wIr2, wSlS, wPop, wAppPop, R.wk, R.st, R.ar, R.bl, R.no, R.sq, R.slot, setsR, startR, List.map_cons, List.map_nil, List.cons_append, List.nil_append, List.length_cons, List.length_nil, List.replicate, List.getElem?_cons_zero, List.getElem?_cons_succ, Option.some.injEq, exists_eq_left', exists_eq_left, R.d.injEq, R.own.injEq, R.fr.injEq, List.set_cons_zero, List.set_cons_succ, addD, subD, mulDD, fdivD, modD, ltD, leD, gtD, geD, eqD, neD, isND, isnotND, inDD, notInDD, ixD, negD, lenD, absD, intD, min2D, max2D, listD, tupleD, slD, Nat.reduceAdd, Nat.reduceSub, Nat.add_zero, Nat.zero_add, true_and, and_true, ite_true, ite_false, if_true, if_false, Bool.false_eq_true, reduceIte, Option.some_inj, Bool.true_eq_false, tgW, tgWs, wipe3, List.set_nil, hn, wWhile, wListRg1])
  refine ⟨by omega, ?_⟩
  have n8 : n ≤ 8 := by omega
  rw [rg_map, ← nats_ints]
  refine ⟨fun m ρ => ∃ (o p : List Nat), (o ++ p).Perm (List.range n) ∧ m = p.length ∧ ρ = [some (.hand L_hand), some (.d (.int 8)), some (.d (.int wide)), some (.d (.int n)), some (.own ((natI p).map .int)), some (.own ((natI o).map .int)), none, none, none, none, none, none], ⟨n, [], List.range n, by simp, by simp, rfl⟩, ?_⟩
  rintro m ρ ⟨o, p, hp, hm, rfl⟩
  have hlen := hp.length_eq
  rw [List.length_append, List.length_range] at hlen
  (try simp only [wIzM, wWordV, wDc, wDn, wDGet, wDIn, wDNotIn, wDPut, wRetK, wFrzK, keyOf, R.dk.injEq, R.fk.injEq, wRev, neS, wSortLL, wSetIfO, ltDD, sortedDI, wIe, isDD, isnotDD, wPar2, sumDD, eqS, reprD, wV, wC, wNil, wCons, wTup, wLst, wOp, wUn, wCall, wT, wNot, wAnd, wOr, wB, wAndV, wOrV, wNotV, wIf, wIsi, wChain, wNo, wPart, wSl, wSet, wSetO, wTg, wPnil, wPcons, wPar, wNext, wSeq, wRet, wRetO, wRetN, wIfS, wBrk, wCnt, wDrop, wFrz, wApp, wExt, wSetIx, wAugIx, wAug, wRnil, wRcons, wFn, wRaise, wWord, wRetH, wSetIxH, wCount, wIndex, wIsE, wListRg1, wListRg2, wYes, wIs, wIz, wIl, wIt, wIr1, wIr2, wSlS, wPop, wAppPop, R.wk, R.st, R.ar, R.bl, R.no, R.sq, R.slot, setsR, startR, List.map_cons, List.map_nil, List.cons_append, List.nil_append, List.length_cons, List.length_nil, List.replicate, List.getElem?_cons_zero, List.getElem?_cons_succ, Option.some.injEq, exists_eq_left', exists_eq_left, R.d.injEq, R.own.injEq, R.fr.injEq, List.set_cons_zero, List.set_cons_succ, addD, subD, mulDD, fdivD, modD, ltD, leD, gtD, geD, eqD, neD, isND, isnotND, inDD, notInDD, ixD, negD, lenD, absD, intD, min2D, max2D, listD, tupleD, slD, Nat.reduceAdd, Nat.reduceSub, Nat.add_zero, Nat.zero_add, true_and, and_true, ite_true, ite_false, if_true, if_false, Bool.false_eq_true, reduceIte, Option.some_inj, Bool.true_eq_false, tgW, tgWs, wipe3, List.set_nil])
  by_cases c : 0 < p.length
  · have c' : decide (0 < (((natI p).map PyData.int).length : Int)) = true := decide_eq_true (by simp; omega)
    rw [c']
    (try simp only [wIzM, wWordV, wDc, wDn, wDGet, wDIn, wDNotIn, wDPut, wRetK, wFrzK, keyOf, R.dk.injEq, R.fk.injEq, wRev, neS, wSortLL, wSetIfO, ltDD, sortedDI, wIe, isDD, isnotDD, wPar2, sumDD, eqS, reprD, wV, wC, wNil, wCons, wTup, wLst, wOp, wUn, wCall, wT, wNot, wAnd, wOr, wB, wAndV, wOrV, wNotV, wIf, wIsi, wChain, wNo, wPart, wSl, wSet, wSetO, wTg, wPnil, wPcons, wPar, wNext, wSeq, wRet, wRetO, wRetN, wIfS, wBrk, wCnt, wDrop, wFrz, wApp, wExt, wSetIx, wAugIx, wAug, wRnil, wRcons, wFn, wRaise, wWord, wRetH, wSetIxH, wCount, wIndex, wIsE, wListRg1, wListRg2, wYes, wIs, wIz, wIl, wIt, wIr1, wIr2, wSlS, wPop, wAppPop, R.wk, R.st, R.ar, R.bl, R.no, R.sq, R.slot, setsR, startR, List.map_cons, List.map_nil, List.cons_append, List.nil_append, List.length_cons, List.length_nil, List.replicate, List.getElem?_cons_zero, List.getElem?_cons_succ, Option.some.injEq, exists_eq_left', exists_eq_left, R.d.injEq, R.own.injEq, R.fr.injEq, List.set_cons_zero, List.set_cons_succ, addD, subD, mulDD, fdivD, modD, ltD, leD, gtD, geD, eqD, neD, isND, isnotND, inDD, notInDD, ixD, negD, lenD, absD, intD, min2D, max2D, listD, tupleD, slD, Nat.reduceAdd, Nat.reduceSub, Nat.add_zero, Nat.zero_add, true_and, and_true, ite_true, ite_false, if_true, if_false, Bool.false_eq_true, reduceIte, Option.some_inj, Bool.true_eq_false, tgW, tgWs, wipe3, List.set_nil, b1_law_dish, C_law_draw, C_draw])
    refine ⟨_, _, by decide, rfl, rfl, ((natI p).map PyData.int).length, rfl, by simp; omega, by simp; omega, fun a a0 a1 => ?_⟩
    obtain ⟨j, rfl⟩ : ∃ j : Nat, a = j := ⟨a.toNat, by omega⟩
    have hj : j < p.length := by
      simp at a1
      omega
    have hj' : j < ((natI p).map PyData.int).length := by simp; omega
    refine ⟨⟨by omega, by omega, by simp; omega⟩, j, .int (p[j] : Nat), ix_of hj', by simp [hj], p.length - 1, by omega, o ++ [p[j]], p.eraseIdx j, ?_, by rw [List.length_eraseIdx, if_pos hj], ?_⟩
    · have z := er_perm (List.getElem?_eq_getElem hj)
      rw [List.append_assoc]
      exact (List.Perm.append_left o z).trans hp
    · rw [er_map, er_map]
      simp [natI]
  · have c' : decide (0 < (((natI p).map PyData.int).length : Int)) = false := decide_eq_false (by simp only [List.length_map]; omega)
    rw [c']
    have ep : p = [] := List.length_eq_zero_iff.mp (by omega)
    subst ep
    rw [List.append_nil] at hp
    (try simp only [wIzM, wWordV, wDc, wDn, wDGet, wDIn, wDNotIn, wDPut, wRetK, wFrzK, keyOf, R.dk.injEq, R.fk.injEq, wRev, neS, wSortLL, wSetIfO, ltDD, sortedDI, wIe, isDD, isnotDD, wPar2, sumDD, eqS, reprD, wV, wC, wNil, wCons, wTup, wLst, wOp, wUn, wCall, wT, wNot, wAnd, wOr, wB, wAndV, wOrV, wNotV, wIf, wIsi, wChain, wNo, wPart, wSl, wSet, wSetO, wTg, wPnil, wPcons, wPar, wNext, wSeq, wRet, wRetO, wRetN, wIfS, wBrk, wCnt, wDrop, wFrz, wApp, wExt, wSetIx, wAugIx, wAug, wRnil, wRcons, wFn, wRaise, wWord, wRetH, wSetIxH, wCount, wIndex, wIsE, wListRg1, wListRg2, wYes, wIs, wIz, wIl, wIt, wIr1, wIr2, wSlS, wPop, wAppPop, R.wk, R.st, R.ar, R.bl, R.no, R.sq, R.slot, setsR, startR, List.map_cons, List.map_nil, List.cons_append, List.nil_append, List.length_cons, List.length_nil, List.replicate, List.getElem?_cons_zero, List.getElem?_cons_succ, Option.some.injEq, exists_eq_left', exists_eq_left, R.d.injEq, R.own.injEq, R.fr.injEq, List.set_cons_zero, List.set_cons_succ, addD, subD, mulDD, fdivD, modD, ltD, leD, gtD, geD, eqD, neD, isND, isnotND, inDD, notInDD, ixD, negD, lenD, absD, intD, min2D, max2D, listD, tupleD, slD, Nat.reduceAdd, Nat.reduceSub, Nat.add_zero, Nat.zero_add, true_and, and_true, ite_true, ite_false, if_true, if_false, Bool.false_eq_true, reduceIte, Option.some_inj, Bool.true_eq_false, tgW, tgWs, wipe3, List.set_nil, w_law_dish_3, w_law_dish_4, wFor])
    refine any_some (by decide) (by decide) fun x hx => ?_
    have hx2 : ∃ t : Int, x = .int t ∧ 2 ≤ t ∧ t ≤ 4 := by
      simp only [List.mem_cons, List.not_mem_nil, or_false] at hx
      rcases hx with rfl | rfl | rfl
      · exact ⟨2, rfl, by omega, by omega⟩
      · exact ⟨3, rfl, by omega, by omega⟩
      · exact ⟨4, rfl, by omega, by omega⟩
    obtain ⟨t, rfl, t0, t1⟩ := hx2
    (try simp only [wIzM, wWordV, wDc, wDn, wDGet, wDIn, wDNotIn, wDPut, wRetK, wFrzK, keyOf, R.dk.injEq, R.fk.injEq, wRev, neS, wSortLL, wSetIfO, ltDD, sortedDI, wIe, isDD, isnotDD, wPar2, sumDD, eqS, reprD, wV, wC, wNil, wCons, wTup, wLst, wOp, wUn, wCall, wT, wNot, wAnd, wOr, wB, wAndV, wOrV, wNotV, wIf, wIsi, wChain, wNo, wPart, wSl, wSet, wSetO, wTg, wPnil, wPcons, wPar, wNext, wSeq, wRet, wRetO, wRetN, wIfS, wBrk, wCnt, wDrop, wFrz, wApp, wExt, wSetIx, wAugIx, wAug, wRnil, wRcons, wFn, wRaise, wWord, wRetH, wSetIxH, wCount, wIndex, wIsE, wListRg1, wListRg2, wYes, wIs, wIz, wIl, wIt, wIr1, wIr2, wSlS, wPop, wAppPop, R.wk, R.st, R.ar, R.bl, R.no, R.sq, R.slot, setsR, startR, List.map_cons, List.map_nil, List.cons_append, List.nil_append, List.length_cons, List.length_nil, List.replicate, List.getElem?_cons_zero, List.getElem?_cons_succ, Option.some.injEq, exists_eq_left', exists_eq_left, R.d.injEq, R.own.injEq, R.fr.injEq, List.set_cons_zero, List.set_cons_succ, addD, subD, mulDD, fdivD, modD, ltD, leD, gtD, geD, eqD, neD, isND, isnotND, inDD, notInDD, ixD, negD, lenD, absD, intD, min2D, max2D, listD, tupleD, slD, Nat.reduceAdd, Nat.reduceSub, Nat.add_zero, Nat.zero_add, true_and, and_true, ite_true, ite_false, if_true, if_false, Bool.false_eq_true, reduceIte, Option.some_inj, Bool.true_eq_false, tgW, tgWs, wipe3, List.set_nil])
    refine ⟨by omega, ?_⟩
    have n1 : 1 ≤ n := by omega
    refine for_rule (fun rest ρ => ∃ (ss : List St) (o8 o9 o10 : Option R), ss.length ≤ n ∧ rest = rgD ss.length n ∧ (∀ (i : Nat) (p : St), ss[i]? = some p → PStep o i p) ∧ ρ = [some (.hand L_hand), some (.d (.int 8)), some (.d (.int wide)), some (.d (.int n)), some (.own []), some (.own ((natI o).map .int)), some (.d (.int t)), some (.own (ss.map stepD)), o8, o9, o10, none]) _ _ ⟨[], none, none, none, by simp, rfl, fun i p e => (by simp at e), rfl⟩ ?_ ?_
    · rintro ρ ⟨ss, o8, o9, o10, f0, f1, f2, rfl⟩
      have hl : ss.length = n := by
        have := rg_nil f1
        omega
      subst hl
      obtain ⟨z1, z2⟩ := drawn_good hp n1 n8 f2
      (try simp only [wIzM, wWordV, wDc, wDn, wDGet, wDIn, wDNotIn, wDPut, wRetK, wFrzK, keyOf, R.dk.injEq, R.fk.injEq, wRev, neS, wSortLL, wSetIfO, ltDD, sortedDI, wIe, isDD, isnotDD, wPar2, sumDD, eqS, reprD, wV, wC, wNil, wCons, wTup, wLst, wOp, wUn, wCall, wT, wNot, wAnd, wOr, wB, wAndV, wOrV, wNotV, wIf, wIsi, wChain, wNo, wPart, wSl, wSet, wSetO, wTg, wPnil, wPcons, wPar, wNext, wSeq, wRet, wRetO, wRetN, wIfS, wBrk, wCnt, wDrop, wFrz, wApp, wExt, wSetIx, wAugIx, wAug, wRnil, wRcons, wFn, wRaise, wWord, wRetH, wSetIxH, wCount, wIndex, wIsE, wListRg1, wListRg2, wYes, wIs, wIz, wIl, wIt, wIr1, wIr2, wSlS, wPop, wAppPop, R.wk, R.st, R.ar, R.bl, R.no, R.sq, R.slot, setsR, startR, List.map_cons, List.map_nil, List.cons_append, List.nil_append, List.length_cons, List.length_nil, List.replicate, List.getElem?_cons_zero, List.getElem?_cons_succ, Option.some.injEq, exists_eq_left', exists_eq_left, R.d.injEq, R.own.injEq, R.fr.injEq, List.set_cons_zero, List.set_cons_succ, addD, subD, mulDD, fdivD, modD, ltD, leD, gtD, geD, eqD, neD, isND, isnotND, inDD, notInDD, ixD, negD, lenD, absD, intD, min2D, max2D, listD, tupleD, slD, Nat.reduceAdd, Nat.reduceSub, Nat.add_zero, Nat.zero_add, true_and, and_true, ite_true, ite_false, if_true, if_false, Bool.false_eq_true, reduceIte, Option.some_inj, Bool.true_eq_false, tgW, tgWs, wipe3, List.set_nil, w_law_dish_5])
      exact h ss z1 n8 z2
    · rintro y rest ρ ⟨ss, o8, o9, o10, f0, f1, f2, rfl⟩ N hN
      obtain ⟨g1, rfl, g3⟩ := rg_if f1
      have hin : ss.length ∈ o := hp.mem_iff.mpr (List.mem_range.mpr g1)
      have hix := List.idxOf_lt_length_of_mem hin
      (try simp only [wIzM, wWordV, wDc, wDn, wDGet, wDIn, wDNotIn, wDPut, wRetK, wFrzK, keyOf, R.dk.injEq, R.fk.injEq, wRev, neS, wSortLL, wSetIfO, ltDD, sortedDI, wIe, isDD, isnotDD, wPar2, sumDD, eqS, reprD, wV, wC, wNil, wCons, wTup, wLst, wOp, wUn, wCall, wT, wNot, wAnd, wOr, wB, wAndV, wOrV, wNotV, wIf, wIsi, wChain, wNo, wPart, wSl, wSet, wSetO, wTg, wPnil, wPcons, wPar, wNext, wSeq, wRet, wRetO, wRetN, wIfS, wBrk, wCnt, wDrop, wFrz, wApp, wExt, wSetIx, wAugIx, wAug, wRnil, wRcons, wFn, wRaise, wWord, wRetH, wSetIxH, wCount, wIndex, wIsE, wListRg1, wListRg2, wYes, wIs, wIz, wIl, wIt, wIr1, wIr2, wSlS, wPop, wAppPop, R.wk, R.st, R.ar, R.bl, R.no, R.sq, R.slot, setsR, startR, List.map_cons, List.map_nil, List.cons_append, List.nil_append, List.length_cons, List.length_nil, List.replicate, List.getElem?_cons_zero, List.getElem?_cons_succ, Option.some.injEq, exists_eq_left', exists_eq_left, R.d.injEq, R.own.injEq, R.fr.injEq, List.set_cons_zero, List.set_cons_succ, addD, subD, mulDD, fdivD, modD, ltD, leD, gtD, geD, eqD, neD, isND, isnotND, inDD, notInDD, ixD, negD, lenD, absD, intD, min2D, max2D, listD, tupleD, slD, Nat.reduceAdd, Nat.reduceSub, Nat.add_zero, Nat.zero_add, true_and, and_true, ite_true, ite_false, if_true, if_false, Bool.false_eq_true, reduceIte, Option.some_inj, Bool.true_eq_false, tgW, tgWs, wipe3, List.set_nil, b2_law_dish])
      refine ⟨(lay_lints _).sh, rfl, o.idxOf ss.length, .int (ss.length : Nat), ?_, ?_, fun m z hm hz' => ?_, ?_⟩
      · simp [hix]
      · rw [eqv_ii, decide_eq_true rfl]
      · have hm' : m < o.length := by omega
        simp [hm'] at hz'
        rw [← hz', eqv_ii, decide_eq_false]
        intro e
        have e' : o[m] = ss.length := by omega
        have := idx_le_of (o := o) hm' e'
        omega
      · rw [cut_to, ← List.map_take, ← List.map_take]
        (try simp only [wIzM, wWordV, wDc, wDn, wDGet, wDIn, wDNotIn, wDPut, wRetK, wFrzK, keyOf, R.dk.injEq, R.fk.injEq, wRev, neS, wSortLL, wSetIfO, ltDD, sortedDI, wIe, isDD, isnotDD, wPar2, sumDD, eqS, reprD, wV, wC, wNil, wCons, wTup, wLst, wOp, wUn, wCall, wT, wNot, wAnd, wOr, wB, wAndV, wOrV, wNotV, wIf, wIsi, wChain, wNo, wPart, wSl, wSet, wSetO, wTg, wPnil, wPcons, wPar, wNext, wSeq, wRet, wRetO, wRetN, wIfS, wBrk, wCnt, wDrop, wFrz, wApp, wExt, wSetIx, wAugIx, wAug, wRnil, wRcons, wFn, wRaise, wWord, wRetH, wSetIxH, wCount, wIndex, wIsE, wListRg1, wListRg2, wYes, wIs, wIz, wIl, wIt, wIr1, wIr2, wSlS, wPop, wAppPop, R.wk, R.st, R.ar, R.bl, R.no, R.sq, R.slot, setsR, startR, List.map_cons, List.map_nil, List.cons_append, List.nil_append, List.length_cons, List.length_nil, List.replicate, List.getElem?_cons_zero, List.getElem?_cons_succ, Option.some.injEq, exists_eq_left', exists_eq_left, R.d.injEq, R.own.injEq, R.fr.injEq, List.set_cons_zero, List.set_cons_succ, addD, subD, mulDD, fdivD, modD, ltD, leD, gtD, geD, eqD, neD, isND, isnotND, inDD, notInDD, ixD, negD, lenD, absD, intD, min2D, max2D, listD, tupleD, slD, Nat.reduceAdd, Nat.reduceSub, Nat.add_zero, Nat.zero_add, true_and, and_true, ite_true, ite_false, if_true, if_false, Bool.false_eq_true, reduceIte, Option.some_inj, Bool.true_eq_false, tgW, tgWs, wipe3, List.set_nil, b2_law_dish_1, wLc])
        refine lc_rule (fun x y => y = none ∨ y = some x) _ _ (fun x hx q hq => ?_) fun ys hy => ?_
        · obtain ⟨i, _, rfl⟩ := List.mem_map.mp hx
          (try simp only [wIzM, wWordV, wDc, wDn, wDGet, wDIn, wDNotIn, wDPut, wRetK, wFrzK, keyOf, R.dk.injEq, R.fk.injEq, wRev, neS, wSortLL, wSetIfO, ltDD, sortedDI, wIe, isDD, isnotDD, wPar2, sumDD, eqS, reprD, wV, wC, wNil, wCons, wTup, wLst, wOp, wUn, wCall, wT, wNot, wAnd, wOr, wB, wAndV, wOrV, wNotV, wIf, wIsi, wChain, wNo, wPart, wSl, wSet, wSetO, wTg, wPnil, wPcons, wPar, wNext, wSeq, wRet, wRetO, wRetN, wIfS, wBrk, wCnt, wDrop, wFrz, wApp, wExt, wSetIx, wAugIx, wAug, wRnil, wRcons, wFn, wRaise, wWord, wRetH, wSetIxH, wCount, wIndex, wIsE, wListRg1, wListRg2, wYes, wIs, wIz, wIl, wIt, wIr1, wIr2, wSlS, wPop, wAppPop, R.wk, R.st, R.ar, R.bl, R.no, R.sq, R.slot, setsR, startR, List.map_cons, List.map_nil, List.cons_append, List.nil_append, List.length_cons, List.length_nil, List.replicate, List.getElem?_cons_zero, List.getElem?_cons_succ, Option.some.injEq, exists_eq_left', exists_eq_left, R.d.injEq, R.own.injEq, R.fr.injEq, List.set_cons_zero, List.set_cons_succ, addD, subD, mulDD, fdivD, modD, ltD, leD, gtD, geD, eqD, neD, isND, isnotND, inDD, notInDD, ixD, negD, lenD, absD, intD, min2D, max2D, listD, tupleD, slD, Nat.reduceAdd, Nat.reduceSub, Nat.add_zero, Nat.zero_add, true_and, and_true, ite_true, ite_false, if_true, if_false, Bool.false_eq_true, reduceIte, Option.some_inj, Bool.true_eq_false, tgW, tgWs, wipe3, List.set_nil, C_law_draw, C_draw])
          refine ⟨t, rfl, by omega, by omega, fun e e0 e1 => ?_⟩
          (try simp only [wIzM, wWordV, wDc, wDn, wDGet, wDIn, wDNotIn, wDPut, wRetK, wFrzK, keyOf, R.dk.injEq, R.fk.injEq, wRev, neS, wSortLL, wSetIfO, ltDD, sortedDI, wIe, isDD, isnotDD, wPar2, sumDD, eqS, reprD, wV, wC, wNil, wCons, wTup, wLst, wOp, wUn, wCall, wT, wNot, wAnd, wOr, wB, wAndV, wOrV, wNotV, wIf, wIsi, wChain, wNo, wPart, wSl, wSet, wSetO, wTg, wPnil, wPcons, wPar, wNext, wSeq, wRet, wRetO, wRetN, wIfS, wBrk, wCnt, wDrop, wFrz, wApp, wExt, wSetIx, wAugIx, wAug, wRnil, wRcons, wFn, wRaise, wWord, wRetH, wSetIxH, wCount, wIndex, wIsE, wListRg1, wListRg2, wYes, wIs, wIz, wIl, wIt, wIr1, wIr2, wSlS, wPop, wAppPop, R.wk, R.st, R.ar, R.bl, R.no, R.sq, R.slot, setsR, startR, List.map_cons, List.map_nil, List.cons_append, List.nil_append, List.length_cons, List.length_nil, List.replicate, List.getElem?_cons_zero, List.getElem?_cons_succ, Option.some.injEq, exists_eq_left', exists_eq_left, R.d.injEq, R.own.injEq, R.fr.injEq, List.set_cons_zero, List.set_cons_succ, addD, subD, mulDD, fdivD, modD, ltD, leD, gtD, geD, eqD, neD, isND, isnotND, inDD, notInDD, ixD, negD, lenD, absD, intD, min2D, max2D, listD, tupleD, slD, Nat.reduceAdd, Nat.reduceSub, Nat.add_zero, Nat.zero_add, true_and, and_true, ite_true, ite_false, if_true, if_false, Bool.false_eq_true, reduceIte, Option.some_inj, Bool.true_eq_false, tgW, tgWs, wipe3, List.set_nil, eqv_ii, sh_i])
          by_cases c : e = 0
          · rw [decide_eq_true c]
            (try simp only [wIzM, wWordV, wDc, wDn, wDGet, wDIn, wDNotIn, wDPut, wRetK, wFrzK, keyOf, R.dk.injEq, R.fk.injEq, wRev, neS, wSortLL, wSetIfO, ltDD, sortedDI, wIe, isDD, isnotDD, wPar2, sumDD, eqS, reprD, wV, wC, wNil, wCons, wTup, wLst, wOp, wUn, wCall, wT, wNot, wAnd, wOr, wB, wAndV, wOrV, wNotV, wIf, wIsi, wChain, wNo, wPart, wSl, wSet, wSetO, wTg, wPnil, wPcons, wPar, wNext, wSeq, wRet, wRetO, wRetN, wIfS, wBrk, wCnt, wDrop, wFrz, wApp, wExt, wSetIx, wAugIx, wAug, wRnil, wRcons, wFn, wRaise, wWord, wRetH, wSetIxH, wCount, wIndex, wIsE, wListRg1, wListRg2, wYes, wIs, wIz, wIl, wIt, wIr1, wIr2, wSlS, wPop, wAppPop, R.wk, R.st, R.ar, R.bl, R.no, R.sq, R.slot, setsR, startR, List.map_cons, List.map_nil, List.cons_append, List.nil_append, List.length_cons, List.length_nil, List.replicate, List.getElem?_cons_zero, List.getElem?_cons_succ, Option.some.injEq, exists_eq_left', exists_eq_left, R.d.injEq, R.own.injEq, R.fr.injEq, List.set_cons_zero, List.set_cons_succ, addD, subD, mulDD, fdivD, modD, ltD, leD, gtD, geD, eqD, neD, isND, isnotND, inDD, notInDD, ixD, negD, lenD, absD, intD, min2D, max2D, listD, tupleD, slD, Nat.reduceAdd, Nat.reduceSub, Nat.add_zero, Nat.zero_add, true_and, and_true, ite_true, ite_false, if_true, if_false, Bool.false_eq_true, reduceIte, Option.some_inj, Bool.true_eq_false, tgW, tgWs, wipe3, List.set_nil])
            exact hq _ (.inr rfl)
          · rw [decide_eq_false c]
            (try simp only [wIzM, wWordV, wDc, wDn, wDGet, wDIn, wDNotIn, wDPut, wRetK, wFrzK, keyOf, R.dk.injEq, R.fk.injEq, wRev, neS, wSortLL, wSetIfO, ltDD, sortedDI, wIe, isDD, isnotDD, wPar2, sumDD, eqS, reprD, wV, wC, wNil, wCons, wTup, wLst, wOp, wUn, wCall, wT, wNot, wAnd, wOr, wB, wAndV, wOrV, wNotV, wIf, wIsi, wChain, wNo, wPart, wSl, wSet, wSetO, wTg, wPnil, wPcons, wPar, wNext, wSeq, wRet, wRetO, wRetN, wIfS, wBrk, wCnt, wDrop, wFrz, wApp, wExt, wSetIx, wAugIx, wAug, wRnil, wRcons, wFn, wRaise, wWord, wRetH, wSetIxH, wCount, wIndex, wIsE, wListRg1, wListRg2, wYes, wIs, wIz, wIl, wIt, wIr1, wIr2, wSlS, wPop, wAppPop, R.wk, R.st, R.ar, R.bl, R.no, R.sq, R.slot, setsR, startR, List.map_cons, List.map_nil, List.cons_append, List.nil_append, List.length_cons, List.length_nil, List.replicate, List.getElem?_cons_zero, List.getElem?_cons_succ, Option.some.injEq, exists_eq_left', exists_eq_left, R.d.injEq, R.own.injEq, R.fr.injEq, List.set_cons_zero, List.set_cons_succ, addD, subD, mulDD, fdivD, modD, ltD, leD, gtD, geD, eqD, neD, isND, isnotND, inDD, notInDD, ixD, negD, lenD, absD, intD, min2D, max2D, listD, tupleD, slD, Nat.reduceAdd, Nat.reduceSub, Nat.add_zero, Nat.zero_add, true_and, and_true, ite_true, ite_false, if_true, if_false, Bool.false_eq_true, reduceIte, Option.some_inj, Bool.true_eq_false, tgW, tgWs, wipe3, List.set_nil])
            exact hq none (.inl rfl)
        · obtain ⟨js, h1, rfl, _⟩ := made_some (P := fun _ => True) (fun i o z => z.imp id fun q => ⟨q, trivial⟩) hy (natI (o.take (o.idxOf ss.length))) rfl
          (try simp only [wIzM, wWordV, wDc, wDn, wDGet, wDIn, wDNotIn, wDPut, wRetK, wFrzK, keyOf, R.dk.injEq, R.fk.injEq, wRev, neS, wSortLL, wSetIfO, ltDD, sortedDI, wIe, isDD, isnotDD, wPar2, sumDD, eqS, reprD, wV, wC, wNil, wCons, wTup, wLst, wOp, wUn, wCall, wT, wNot, wAnd, wOr, wB, wAndV, wOrV, wNotV, wIf, wIsi, wChain, wNo, wPart, wSl, wSet, wSetO, wTg, wPnil, wPcons, wPar, wNext, wSeq, wRet, wRetO, wRetN, wIfS, wBrk, wCnt, wDrop, wFrz, wApp, wExt, wSetIx, wAugIx, wAug, wRnil, wRcons, wFn, wRaise, wWord, wRetH, wSetIxH, wCount, wIndex, wIsE, wListRg1, wListRg2, wYes, wIs, wIz, wIl, wIt, wIr1, wIr2, wSlS, wPop, wAppPop, R.wk, R.st, R.ar, R.bl, R.no, R.sq, R.slot, setsR, startR, List.map_cons, List.map_nil, List.cons_append, List.nil_append, List.length_cons, List.length_nil, List.replicate, List.getElem?_cons_zero, List.getElem?_cons_succ, Option.some.injEq, exists_eq_left', exists_eq_left, R.d.injEq, R.own.injEq, R.fr.injEq, List.set_cons_zero, List.set_cons_succ, addD, subD, mulDD, fdivD, modD, ltD, leD, gtD, geD, eqD, neD, isND, isnotND, inDD, notInDD, ixD, negD, lenD, absD, intD, min2D, max2D, listD, tupleD, slD, Nat.reduceAdd, Nat.reduceSub, Nat.add_zero, Nat.zero_add, true_and, and_true, ite_true, ite_false, if_true, if_false, Bool.false_eq_true, reduceIte, Option.some_inj, Bool.true_eq_false, tgW, tgWs, wipe3, List.set_nil])
          refine ⟨js, rfl, fun ms hpm hw => ?_⟩
          have hmem : ∀ i ∈ ms, i ∈ natI (o.take (o.idxOf ss.length)) := fun i hi => h1.subset (hpm.mem_iff.mp hi)
          have hnd : ms.Nodup := hpm.nodup_iff.mpr (h1.nodup (nat_nd ((hp.nodup_iff.mpr List.nodup_range).sublist (List.take_sublist _ _))))
          obtain ⟨ws, rfl⟩ := nats_back fun i hi => by
            obtain ⟨w, _, rfl⟩ := List.mem_map.mp (hmem i hi)
            omega
          (try simp only [wIzM, wWordV, wDc, wDn, wDGet, wDIn, wDNotIn, wDPut, wRetK, wFrzK, keyOf, R.dk.injEq, R.fk.injEq, wRev, neS, wSortLL, wSetIfO, ltDD, sortedDI, wIe, isDD, isnotDD, wPar2, sumDD, eqS, reprD, wV, wC, wNil, wCons, wTup, wLst, wOp, wUn, wCall, wT, wNot, wAnd, wOr, wB, wAndV, wOrV, wNotV, wIf, wIsi, wChain, wNo, wPart, wSl, wSet, wSetO, wTg, wPnil, wPcons, wPar, wNext, wSeq, wRet, wRetO, wRetN, wIfS, wBrk, wCnt, wDrop, wFrz, wApp, wExt, wSetIx, wAugIx, wAug, wRnil, wRcons, wFn, wRaise, wWord, wRetH, wSetIxH, wCount, wIndex, wIsE, wListRg1, wListRg2, wYes, wIs, wIz, wIl, wIt, wIr1, wIr2, wSlS, wPop, wAppPop, R.wk, R.st, R.ar, R.bl, R.no, R.sq, R.slot, setsR, startR, List.map_cons, List.map_nil, List.cons_append, List.nil_append, List.length_cons, List.length_nil, List.replicate, List.getElem?_cons_zero, List.getElem?_cons_succ, Option.some.injEq, exists_eq_left', exists_eq_left, R.d.injEq, R.own.injEq, R.fr.injEq, List.set_cons_zero, List.set_cons_succ, addD, subD, mulDD, fdivD, modD, ltD, leD, gtD, geD, eqD, neD, isND, isnotND, inDD, notInDD, ixD, negD, lenD, absD, intD, min2D, max2D, listD, tupleD, slD, Nat.reduceAdd, Nat.reduceSub, Nat.add_zero, Nat.zero_add, true_and, and_true, ite_true, ite_false, if_true, if_false, Bool.false_eq_true, reduceIte, Option.some_inj, Bool.true_eq_false, tgW, tgWs, wipe3, List.set_nil, b2_law_dish_2, C_law_draw, C_draw])
          refine ⟨wide, rfl, by omega, by omega, fun e e0 e1 => ?_⟩
          (try simp only [wIzM, wWordV, wDc, wDn, wDGet, wDIn, wDNotIn, wDPut, wRetK, wFrzK, keyOf, R.dk.injEq, R.fk.injEq, wRev, neS, wSortLL, wSetIfO, ltDD, sortedDI, wIe, isDD, isnotDD, wPar2, sumDD, eqS, reprD, wV, wC, wNil, wCons, wTup, wLst, wOp, wUn, wCall, wT, wNot, wAnd, wOr, wB, wAndV, wOrV, wNotV, wIf, wIsi, wChain, wNo, wPart, wSl, wSet, wSetO, wTg, wPnil, wPcons, wPar, wNext, wSeq, wRet, wRetO, wRetN, wIfS, wBrk, wCnt, wDrop, wFrz, wApp, wExt, wSetIx, wAugIx, wAug, wRnil, wRcons, wFn, wRaise, wWord, wRetH, wSetIxH, wCount, wIndex, wIsE, wListRg1, wListRg2, wYes, wIs, wIz, wIl, wIt, wIr1, wIr2, wSlS, wPop, wAppPop, R.wk, R.st, R.ar, R.bl, R.no, R.sq, R.slot, setsR, startR, List.map_cons, List.map_nil, List.cons_append, List.nil_append, List.length_cons, List.length_nil, List.replicate, List.getElem?_cons_zero, List.getElem?_cons_succ, Option.some.injEq, exists_eq_left', exists_eq_left, R.d.injEq, R.own.injEq, R.fr.injEq, List.set_cons_zero, List.set_cons_succ, addD, subD, mulDD, fdivD, modD, ltD, leD, gtD, geD, eqD, neD, isND, isnotND, inDD, notInDD, ixD, negD, lenD, absD, intD, min2D, max2D, listD, tupleD, slD, Nat.reduceAdd, Nat.reduceSub, Nat.add_zero, Nat.zero_add, true_and, and_true, ite_true, ite_false, if_true, if_false, Bool.false_eq_true, reduceIte, Option.some_inj, Bool.true_eq_false, tgW, tgWs, wipe3, List.set_nil])
          have es : ss.map stepD ++ [PyData.tuple [.int (1 + e), .tuple ((natI ws).map .int)]] = (ss ++ [((1 + e, ws) : St)]).map stepD := by
            rw [List.map_append]
            rfl
          rw [es]
          refine ⟨by simp; omega, hN _ ⟨ss ++ [(1 + e, ws)], _, _, _, by simp; omega, by rw [g3, List.length_append, List.length_singleton], fun i p ep => ?_, rfl⟩⟩
          rw [List.getElem?_append] at ep
          split at ep
          · exact f2 i p ep
          · have ei : i = ss.length := by
              rcases Nat.lt_or_ge i (ss.length + 1) with c | c
              · omega
              · rw [List.getElem?_eq_none (by simp; omega)] at ep
                cases ep
            subst ei
            simp at ep
            subst ep
            exact ⟨by show 1 ≤ 1 + e; omega, by show 1 + e ≤ 600; omega, rises_of (by
              have := List.Pairwise.and hw hnd
              exact this.imp fun {a b} z => by
                have z1 := z.1
                have z2 := z.2
                show a < b
                omega), fun w hw => nat_mem.mp (hmem w (nat_mem.mpr hw))⟩
theorem ok_law_dish (D : Txt K mg base T) : Cal false P w K mg base T 3 "_law_dish" C_law_dish :=
  cal_of (wb := w_law_dish) D.d_law_dish sc_law_dish bi_law_dish l_law_dish (fun f cdv A outer s H E hp hr hgd => ess_cons (es_set (i := 3) sc_law_dish.nd rfl (by first | exact Or.inl rfl | exact Or.inr rfl) (ev_op op_addD (ev_int) (ev_fnC (ok_law_draw D) hr (by decide) (fun h => by cases h) rfl pass_cx (er_cons (ev_var (pv 0)) (er_cons (ev_var (pv 1)) (er_nil)))))) (ess_cons (es_par (i := 4) (j := 5) rfl sc_law_dish.nd rfl rfl (by decide) rfl rfl (ep_cons (ev_listRg1 rfl rfl D.n_list rfl D.n_range (ev_var (pv 3))) (ep_cons (ev_lst (el_nil)) (ep_nil))) rfl) (ess_cons (es_while own_cx (et_cmp op_gtD (ev_callB cr_len rfl D.n_len bb_len (el_cons selW (ev_var (pv 4)) (el_nil))) (ev_int) (nomark _)) (ess_one (es_appPop (pv 5) (pv 4) (ev_fnC (ok_law_draw D) hr (by decide) (fun h => by cases h) rfl pass_cx (er_cons (ev_var (pv 0)) (er_cons (ev_callB cr_len rfl D.n_len bb_len (el_cons selW (ev_var (pv 4)) (el_nil))) (er_nil))))))) (ess_cons (es_parT (is := [6, 7]) (ep_cons (ev_fnC (ok_law_any D) hr (by decide) (fun h => by cases h) rfl pass_cx (er_cons (ev_var (pv 0)) (er_cons (ev_lst (el_cons selS (ev_int) (el_cons selS (ev_int) (el_cons selS (ev_int) (el_nil))))) (er_nil)))) (ep_cons (ev_lst (el_nil)) (ep_nil))) (pg_tup rfl (pgs_cons (pg_name (i := 6) sc_law_dish.nd rfl (by first | exact Or.inl rfl | exact Or.inr rfl)) (pgs_cons (pg_name (i := 7) sc_law_dish.nd rfl (by first | exact Or.inl rfl | exact Or.inr rfl)) (pgs_nil))))) (ess_cons (es_for (g := .one 8) own_cx rfl (ei_rg1 rfl D.n_range (ev_var (pv 3))) (pg_name (i := 8) sc_law_dish.nd rfl (by first | exact Or.inl rfl | exact Or.inr rfl)) (ess_cons (es_set (i := 9) sc_law_dish.nd rfl (by first | exact Or.inl rfl | exact Or.inr rfl) (ev_sl (ev_var (pv 5)) eo_no (eo_part (ev_index (u65 hr) (ev_var (pv 5)) (ev_var (pv 8)))))) (ess_cons (es_set (i := 10) sc_law_dish.nd rfl (by first | exact Or.inl rfl | exact Or.inr rfl) (ev_callB cr_sortedDI rfl D.n_sorted bb_sorted (el_cons selW (ev_lc (own := [("one", 11)]) (g := .one 11) rfl sc_law_dish.nd (ei_seq (ev_var (pv 9))) (blkOk_by (N := N_law_dish) (sc := defScope s_law_dish) (by decide +kernel)) (by decide) (fun _ _ _ _ _ => pg_name (i := 11) sc_law_dish.nd rfl (Or.inl rfl)) (fun _ _ _ _ _ => pts_one (et_cmp (op_eqT (u64 hr)) (ev_fnC (ok_law_draw D) hr (by decide) (fun h => by cases h) rfl passL (er_cons (ev_var (pv 0)) (er_cons (ev_var (pv 6)) (er_nil)))) (ev_int) (nomark _))) (fun _ _ _ _ _ => ev_var (pv 11))) (el_nil)))) (ess_one (es_app (pv 7) (ev_tup (el_cons selS (ev_op op_addD (ev_int) (ev_fnC (ok_law_draw D) hr (by decide) (fun h => by cases h) rfl pass_cx (er_cons (ev_var (pv 0)) (er_cons (ev_var (pv 2)) (er_nil))))) (el_cons selS (ev_callTy cr_tuple rfl D.n_tuple bb_tuple (el_cons selW (ev_var (pv 10)) (el_nil))) (el_nil))))))))) (ess_one (es_ret (ev_callTy cr_tuple rfl D.n_tuple bb_tuple (el_cons selW (ev_var (pv 7)) (el_nil)))))))))) p_law_dish
/-! ### _law_begins -/
abbrev N_law_begins : List Str := ["dish", "found", "turn", "step", "minutes", "waits", "one"]
theorem sc_law_begins : FnScope N_law_begins ["dish"] (defScope s_law_begins) := ⟨rfl, rfl, rfl, by decide +kernel, rfl, by decide +kernel, by decide +kernel⟩
theorem bi_law_begins : BindsBy "_law_begins" s_law_begins ["dish"] := fun _ _ _ _ _ _ us hl => match us, hl with | [_], _ => rfl
def b2_law_begins : WS := wSetIx 1 (wV 3) (wCall maxD (wCons R.wk (wOp addD (wLst (wCons R.st (wC (.int 0)) (wNil))) (wLc (wIs (wV 5)) (.one 6) wYes (wOp addD (wOp ixD (wV 1) (wV 6)) (wOp ixD (wOp ixD (wV 0) (wV 6)) (wC (.int 0)))) [6])) (wNil)))
def b1_law_begins : WS := wFor (wIe (wV 0)) (.tup [.one 3, .tup [.one 4, .one 5]]) (b2_law_begins)
def w_law_begins_2 : WS := wRetO 1
def w_law_begins_1 : WS := wSeq (wFor (wIr1 (wCall lenD (wCons R.wk (wV 0) (wNil)))) (.one 2) (b1_law_begins)) (w_law_begins_2)
def w_law_begins : WS := wSeq (wSetO 1 (wOp mulDD (wLst (wCons R.st (wC (.int 0)) (wNil))) (wCall lenD (wCons R.wk (wV 0) (wNil))))) (w_law_begins_1)
-- splitall
theorem en_step {ss : List St} {s : Nat} (h : s < ss.length) : enumD s ((ss.drop s).map stepD) = .tuple [.int s, .tuple [.int (df ss s), .tuple ((natI (Wf ss s)).map .int)]] :: enumD (s + 1) ((ss.drop (s + 1)).map stepD) := by
  rw [List.drop_eq_getElem_cons h, List.map_cons, enumD_cons]
  unfold df Wf
  rw [List.getD_eq_getElem?_getD, List.getElem?_eq_getElem h]
  rfl
theorem en_end {ss : List St} {s : Nat} (h : ss.length ≤ s) : enumD s ((ss.drop s).map stepD) = [] := by
  rw [List.drop_eq_nil_of_le h]
  rfl
def C_law_begins : Ct := fun rs Q _ => ∃ ss, rs = [.d (dsD ss)] ∧ GoodD ss ∧ (ordL ss).length = ss.length ∧ Q (.fr ((bL ss).map .int))
theorem l_law_begins : ∀ rs Q X, C_law_begins rs Q X → rs.length = 1 := by
  rintro rs Q X ⟨_, rfl, _⟩
  rfl
theorem p_law_begins : ∀ rs Q X, C_law_begins rs Q X → w_law_begins ⟨fun _ => Q (.d .none), Q, fun _ => False, fun _ => False⟩ (startR N_law_begins rs) X := by
  rintro rs Q X ⟨ss, rfl, g, ho, h⟩
  have hz := sizeLine_eq
  have n10 := g.n10
  have hr := ord_rk ho
  generalize (fun i => (ordL ss).idxOf i) = r at hr
  (try simp only [wIzM, wWordV, wDc, wDn, wDGet, wDIn, wDNotIn, wDPut, wRetK, wFrzK, keyOf, R.dk.injEq, R.fk.injEq, wRev, neS, wSortLL, wSetIfO, ltDD, sortedDI, wIe, isDD, isnotDD, wPar2, sumDD, eqS, reprD, wV, wC, wNil, wCons, wTup, wLst, wOp, wUn, wCall, wT, wNot, wAnd, wOr, wB, wAndV, wOrV, wNotV, wIf, wIsi, wChain, wNo, wPart, wSl, wSet, wSetO, wTg, wPnil, wPcons, wPar, wNext, wSeq, wRet, wRetO, wRetN, wIfS, wBrk, wCnt, wDrop, wFrz, wApp, wExt, wSetIx, wAugIx, wAug, wRnil, wRcons, wFn, wRaise, wWord, wRetH, wSetIxH, wCount, wIndex, wIsE, wListRg1, wListRg2, wYes, wIs, wIz, wIl, wIt, wIr1, wIr2, wSlS, wPop, wAppPop, R.wk, R.st, R.ar, R.bl, R.no, R.sq, R.slot, setsR, startR, List.map_cons, List.map_nil, List.cons_append, List.nil_append, List.length_cons, List.length_nil, List.replicate, List.getElem?_cons_zero, List.getElem?_cons_succ, Option.some.injEq, exists_eq_left', exists_eq_left, R.d.injEq, R.own.injEq, R.fr.injEq, List.set_cons_zero, List.set_cons_succ, addD, subD, mulDD, fdivD, modD, ltD, leD, gtD, geD, eqD, neD, isND, isnotND, inDD, notInDD, ixD, negD, lenD, absD, intD, min2D, max2D, listD, tupleD, slD, Nat.reduceAdd, Nat.reduceSub, Nat.add_zero, Nat.zero_add, true_and, and_true, ite_true, ite_false, if_true, if_false, Bool.false_eq_true, reduceIte, Option.some_inj, Bool.true_eq_false, tgW, tgWs, wipe3, List.set_nil, w_law_begins, w_law_begins_1, wFor, List.length_map])
  refine ⟨⟨by omega, by omega, by omega⟩, by omega, ?_⟩
  have e0 : (List.replicate ((ss.length : Int)).toNat [PyData.int 0]).flatten = (List.replicate ss.length (0 : Int)).map .int := by
    rw [Int.toNat_natCast, rep_flat, List.map_replicate]
  rw [e0]
  refine for_rule (fun rest ρ => ∃ (t : Nat) (v : List Int) (o2 o3 o4 o5 : Option R), t ≤ ss.length ∧ rest = rgD t ss.length ∧ Bv (Wf ss) (df ss) ss.length (fun i => r i < t) v ∧ ρ = [some (.d (dsD ss)), some (.own (v.map .int)), o2, o3, o4, o5, none]) _ _ ⟨0, _, none, none, none, none, by omega, rfl, ⟨by simp, fun _ _ h => absurd h (Nat.not_lt_zero _)⟩, rfl⟩ ?_ ?_
  · rintro ρ ⟨t, v, o2, o3, o4, o5, f0, f1, b, rfl⟩
    have := rg_nil f1
    (try simp only [wIzM, wWordV, wDc, wDn, wDGet, wDIn, wDNotIn, wDPut, wRetK, wFrzK, keyOf, R.dk.injEq, R.fk.injEq, wRev, neS, wSortLL, wSetIfO, ltDD, sortedDI, wIe, isDD, isnotDD, wPar2, sumDD, eqS, reprD, wV, wC, wNil, wCons, wTup, wLst, wOp, wUn, wCall, wT, wNot, wAnd, wOr, wB, wAndV, wOrV, wNotV, wIf, wIsi, wChain, wNo, wPart, wSl, wSet, wSetO, wTg, wPnil, wPcons, wPar, wNext, wSeq, wRet, wRetO, wRetN, wIfS, wBrk, wCnt, wDrop, wFrz, wApp, wExt, wSetIx, wAugIx, wAug, wRnil, wRcons, wFn, wRaise, wWord, wRetH, wSetIxH, wCount, wIndex, wIsE, wListRg1, wListRg2, wYes, wIs, wIz, wIl, wIt, wIr1, wIr2, wSlS, wPop, wAppPop, R.wk, R.st, R.ar, R.bl, R.no, R.sq, R.slot, setsR, startR, List.map_cons, List.map_nil, List.cons_append, List.nil_append, List.length_cons, List.length_nil, List.replicate, List.getElem?_cons_zero, List.getElem?_cons_succ, Option.some.injEq, exists_eq_left', exists_eq_left, R.d.injEq, R.own.injEq, R.fr.injEq, List.set_cons_zero, List.set_cons_succ, addD, subD, mulDD, fdivD, modD, ltD, leD, gtD, geD, eqD, neD, isND, isnotND, inDD, notInDD, ixD, negD, lenD, absD, intD, min2D, max2D, listD, tupleD, slD, Nat.reduceAdd, Nat.reduceSub, Nat.add_zero, Nat.zero_add, true_and, and_true, ite_true, ite_false, if_true, if_false, Bool.false_eq_true, reduceIte, Option.some_inj, Bool.true_eq_false, tgW, tgWs, wipe3, List.set_nil, w_law_begins_2])
    have : v = bL ss := vals_eq b.len fun i hi => b.ok i hi (by have := hr.lt i hi; omega)
    rw [this]
    exact h
  · rintro y rest ρ ⟨t, v, o2, o3, o4, o5, f0, f1, b, rfl⟩ N hN
    obtain ⟨f2, rfl, f3⟩ := rg_if f1
    (try simp only [wIzM, wWordV, wDc, wDn, wDGet, wDIn, wDNotIn, wDPut, wRetK, wFrzK, keyOf, R.dk.injEq, R.fk.injEq, wRev, neS, wSortLL, wSetIfO, ltDD, sortedDI, wIe, isDD, isnotDD, wPar2, sumDD, eqS, reprD, wV, wC, wNil, wCons, wTup, wLst, wOp, wUn, wCall, wT, wNot, wAnd, wOr, wB, wAndV, wOrV, wNotV, wIf, wIsi, wChain, wNo, wPart, wSl, wSet, wSetO, wTg, wPnil, wPcons, wPar, wNext, wSeq, wRet, wRetO, wRetN, wIfS, wBrk, wCnt, wDrop, wFrz, wApp, wExt, wSetIx, wAugIx, wAug, wRnil, wRcons, wFn, wRaise, wWord, wRetH, wSetIxH, wCount, wIndex, wIsE, wListRg1, wListRg2, wYes, wIs, wIz, wIl, wIt, wIr1, wIr2, wSlS, wPop, wAppPop, R.wk, R.st, R.ar, R.bl, R.no, R.sq, R.slot, setsR, startR, List.map_cons, List.map_nil, List.cons_append, List.nil_append, List.length_cons, List.length_nil, List.replicate, List.getElem?_cons_zero, List.getElem?_cons_succ, Option.some.injEq, exists_eq_left', exists_eq_left, R.d.injEq, R.own.injEq, R.fr.injEq, List.set_cons_zero, List.set_cons_succ, addD, subD, mulDD, fdivD, modD, ltD, leD, gtD, geD, eqD, neD, isND, isnotND, inDD, notInDD, ixD, negD, lenD, absD, intD, min2D, max2D, listD, tupleD, slD, Nat.reduceAdd, Nat.reduceSub, Nat.add_zero, Nat.zero_add, true_and, and_true, ite_true, ite_false, if_true, if_false, Bool.false_eq_true, reduceIte, Option.some_inj, Bool.true_eq_false, tgW, tgWs, wipe3, List.set_nil, b1_law_begins, wFor])
    refine for_rule (fun rest2 ρ => ∃ (s : Nat) (v : List Int) (o3 o4 o5 : Option R), s ≤ ss.length ∧ rest2 = enumD s ((ss.drop s).map stepD) ∧ Bv (Wf ss) (df ss) ss.length (fun i => r i < t ∨ (i < s ∧ r i ≤ t)) v ∧ ρ = [some (.d (dsD ss)), some (.own (v.map .int)), some (.d (.int t)), o3, o4, o5, none]) _ _ ⟨0, v, o3, o4, o5, by omega, rfl, ⟨b.len, fun i hi q => b.ok i hi (q.resolve_right fun c => absurd c.1 (Nat.not_lt_zero _))⟩, rfl⟩ ?_ ?_
    · rintro ρ ⟨s, v, o3, o4, o5, g0, g1, b, rfl⟩
      have hs : ss.length ≤ s := by
        rcases Nat.lt_or_ge s ss.length with c | c
        · rw [en_step c] at g1
          cases g1
        · exact c
      exact hN _ ⟨t + 1, v, _, _, _, _, f2, f3, ⟨b.len, fun i hi q => b.ok i hi (by omega)⟩, rfl⟩
    · rintro y2 rest2 ρ ⟨s, v, o3, o4, o5, g0, g1, b, rfl⟩ N2 hN2
      have hs : s < ss.length := by
        rcases Nat.lt_or_ge s ss.length with c | c
        · exact c
        · rw [en_end c] at g1
          cases g1
      rw [en_step hs] at g1
      injection g1 with g1 g2
      subst g1
      have hlen : (Wf ss s).length < 100 := by
        have := nd_len (f := Wf ss s) (g := List.range ss.length) (rise_nd (good_at g hs).rise) fun w h => List.mem_range.mpr (hr.dn s hs w h).1
        rw [List.length_range] at this
        omega
      (try simp only [wIzM, wWordV, wDc, wDn, wDGet, wDIn, wDNotIn, wDPut, wRetK, wFrzK, keyOf, R.dk.injEq, R.fk.injEq, wRev, neS, wSortLL, wSetIfO, ltDD, sortedDI, wIe, isDD, isnotDD, wPar2, sumDD, eqS, reprD, wV, wC, wNil, wCons, wTup, wLst, wOp, wUn, wCall, wT, wNot, wAnd, wOr, wB, wAndV, wOrV, wNotV, wIf, wIsi, wChain, wNo, wPart, wSl, wSet, wSetO, wTg, wPnil, wPcons, wPar, wNext, wSeq, wRet, wRetO, wRetN, wIfS, wBrk, wCnt, wDrop, wFrz, wApp, wExt, wSetIx, wAugIx, wAug, wRnil, wRcons, wFn, wRaise, wWord, wRetH, wSetIxH, wCount, wIndex, wIsE, wListRg1, wListRg2, wYes, wIs, wIz, wIl, wIt, wIr1, wIr2, wSlS, wPop, wAppPop, R.wk, R.st, R.ar, R.bl, R.no, R.sq, R.slot, setsR, startR, List.map_cons, List.map_nil, List.cons_append, List.nil_append, List.length_cons, List.length_nil, List.replicate, List.getElem?_cons_zero, List.getElem?_cons_succ, Option.some.injEq, exists_eq_left', exists_eq_left, R.d.injEq, R.own.injEq, R.fr.injEq, List.set_cons_zero, List.set_cons_succ, addD, subD, mulDD, fdivD, modD, ltD, leD, gtD, geD, eqD, neD, isND, isnotND, inDD, notInDD, ixD, negD, lenD, absD, intD, min2D, max2D, listD, tupleD, slD, Nat.reduceAdd, Nat.reduceSub, Nat.add_zero, Nat.zero_add, true_and, and_true, ite_true, ite_false, if_true, if_false, Bool.false_eq_true, reduceIte, Option.some_inj, Bool.true_eq_false, tgW, tgWs, wipe3, List.set_nil, b2_law_begins, wLc])
      rw [nats_ints (Wf ss s)]
      refine lc_mapm (α := Nat) (fun i => .int (i : Int)) (fun w => .int (gv v w + df ss w)) _ (fun a b e => ?_) (fun w hw' k hk => ?_) ?_
      · injection e with e
        have : a = b := by omega
        rw [this]
      · have h1 := (hr.dn s hs w hw').1
        have hv : w < v.length := by rw [b.len]; exact h1
        (try simp only [wIzM, wWordV, wDc, wDn, wDGet, wDIn, wDNotIn, wDPut, wRetK, wFrzK, keyOf, R.dk.injEq, R.fk.injEq, wRev, neS, wSortLL, wSetIfO, ltDD, sortedDI, wIe, isDD, isnotDD, wPar2, sumDD, eqS, reprD, wV, wC, wNil, wCons, wTup, wLst, wOp, wUn, wCall, wT, wNot, wAnd, wOr, wB, wAndV, wOrV, wNotV, wIf, wIsi, wChain, wNo, wPart, wSl, wSet, wSetO, wTg, wPnil, wPcons, wPar, wNext, wSeq, wRet, wRetO, wRetN, wIfS, wBrk, wCnt, wDrop, wFrz, wApp, wExt, wSetIx, wAugIx, wAug, wRnil, wRcons, wFn, wRaise, wWord, wRetH, wSetIxH, wCount, wIndex, wIsE, wListRg1, wListRg2, wYes, wIs, wIz, wIl, wIt, wIr1, wIr2, wSlS, wPop, wAppPop, R.wk, R.st, R.ar, R.bl, R.no, R.sq, R.slot, setsR, startR, List.map_cons, List.map_nil, List.cons_append, List.nil_append, List.length_cons, List.length_nil, List.replicate, List.getElem?_cons_zero, List.getElem?_cons_succ, Option.some.injEq, exists_eq_left', exists_eq_left, R.d.injEq, R.own.injEq, R.fr.injEq, List.set_cons_zero, List.set_cons_succ, addD, subD, mulDD, fdivD, modD, ltD, leD, gtD, geD, eqD, neD, isND, isnotND, inDD, notInDD, ixD, negD, lenD, absD, intD, min2D, max2D, listD, tupleD, slD, Nat.reduceAdd, Nat.reduceSub, Nat.add_zero, Nat.zero_add, true_and, and_true, ite_true, ite_false, if_true, if_false, Bool.false_eq_true, reduceIte, Option.some_inj, Bool.true_eq_false, tgW, tgWs, wipe3, List.set_nil, at_gv hv, at_step h1, at0])
        exact hk
      · (try simp only [wIzM, wWordV, wDc, wDn, wDGet, wDIn, wDNotIn, wDPut, wRetK, wFrzK, keyOf, R.dk.injEq, R.fk.injEq, wRev, neS, wSortLL, wSetIfO, ltDD, sortedDI, wIe, isDD, isnotDD, wPar2, sumDD, eqS, reprD, wV, wC, wNil, wCons, wTup, wLst, wOp, wUn, wCall, wT, wNot, wAnd, wOr, wB, wAndV, wOrV, wNotV, wIf, wIsi, wChain, wNo, wPart, wSl, wSet, wSetO, wTg, wPnil, wPcons, wPar, wNext, wSeq, wRet, wRetO, wRetN, wIfS, wBrk, wCnt, wDrop, wFrz, wApp, wExt, wSetIx, wAugIx, wAug, wRnil, wRcons, wFn, wRaise, wWord, wRetH, wSetIxH, wCount, wIndex, wIsE, wListRg1, wListRg2, wYes, wIs, wIz, wIl, wIt, wIr1, wIr2, wSlS, wPop, wAppPop, R.wk, R.st, R.ar, R.bl, R.no, R.sq, R.slot, setsR, startR, List.map_cons, List.map_nil, List.cons_append, List.nil_append, List.length_cons, List.length_nil, List.replicate, List.getElem?_cons_zero, List.getElem?_cons_succ, Option.some.injEq, exists_eq_left', exists_eq_left, R.d.injEq, R.own.injEq, R.fr.injEq, List.set_cons_zero, List.set_cons_succ, addD, subD, mulDD, fdivD, modD, ltD, leD, gtD, geD, eqD, neD, isND, isnotND, inDD, notInDD, ixD, negD, lenD, absD, intD, min2D, max2D, listD, tupleD, slD, Nat.reduceAdd, Nat.reduceSub, Nat.add_zero, Nat.zero_add, true_and, and_true, ite_true, ite_false, if_true, if_false, Bool.false_eq_true, reduceIte, Option.some_inj, Bool.true_eq_false, tgW, tgWs, wipe3, List.set_nil])
        refine ⟨by simp; omega, ?_⟩
        refine max0 ?_
        (try simp only [wIzM, wWordV, wDc, wDn, wDGet, wDIn, wDNotIn, wDPut, wRetK, wFrzK, keyOf, R.dk.injEq, R.fk.injEq, wRev, neS, wSortLL, wSetIfO, ltDD, sortedDI, wIe, isDD, isnotDD, wPar2, sumDD, eqS, reprD, wV, wC, wNil, wCons, wTup, wLst, wOp, wUn, wCall, wT, wNot, wAnd, wOr, wB, wAndV, wOrV, wNotV, wIf, wIsi, wChain, wNo, wPart, wSl, wSet, wSetO, wTg, wPnil, wPcons, wPar, wNext, wSeq, wRet, wRetO, wRetN, wIfS, wBrk, wCnt, wDrop, wFrz, wApp, wExt, wSetIx, wAugIx, wAug, wRnil, wRcons, wFn, wRaise, wWord, wRetH, wSetIxH, wCount, wIndex, wIsE, wListRg1, wListRg2, wYes, wIs, wIz, wIl, wIt, wIr1, wIr2, wSlS, wPop, wAppPop, R.wk, R.st, R.ar, R.bl, R.no, R.sq, R.slot, setsR, startR, List.map_cons, List.map_nil, List.cons_append, List.nil_append, List.length_cons, List.length_nil, List.replicate, List.getElem?_cons_zero, List.getElem?_cons_succ, Option.some.injEq, exists_eq_left', exists_eq_left, R.d.injEq, R.own.injEq, R.fr.injEq, List.set_cons_zero, List.set_cons_succ, addD, subD, mulDD, fdivD, modD, ltD, leD, gtD, geD, eqD, neD, isND, isnotND, inDD, notInDD, ixD, negD, lenD, absD, intD, min2D, max2D, listD, tupleD, slD, Nat.reduceAdd, Nat.reduceSub, Nat.add_zero, Nat.zero_add, true_and, and_true, ite_true, ite_false, if_true, if_false, Bool.false_eq_true, reduceIte, Option.some_inj, Bool.true_eq_false, tgW, tgWs, wipe3, List.set_nil])
        have hv : s < (v.map PyData.int).length := by rw [List.length_map, b.len]; exact hs
        refine ⟨s, ix_of hv, ?_⟩
        rw [set_map]
        exact hN2 _ ⟨s + 1, _, _, _, _, hs, g2, bv_step hr b hs (fun i => r i < t ∨ (i < s + 1 ∧ r i ≤ t)) (fun i hi q => by omega) (fun q w hw' => by
          have := (hr.dn s hs w hw').2
          omega), rfl⟩
theorem ok_law_begins (D : Txt K mg base T) : Cal false P w K mg base T 1 "_law_begins" C_law_begins :=
  cal_of (wb := w_law_begins) D.d_law_begins sc_law_begins bi_law_begins l_law_begins (fun f cdv A outer s H E hp hr hgd => ess_cons (es_setO (i := 1) sc_law_begins.nd rfl (by first | exact Or.inl rfl | exact Or.inr rfl) (ev_op op_mulDD (ev_lst (el_cons selS (ev_int) (el_nil))) (ev_callB cr_len rfl D.n_len bb_len (el_cons selW (ev_var (pv 0)) (el_nil))))) (ess_cons (es_for (g := .one 2) own_cx rfl (ei_rg1 rfl D.n_range (ev_callB cr_len rfl D.n_len bb_len (el_cons selW (ev_var (pv 0)) (el_nil)))) (pg_name (i := 2) sc_law_begins.nd rfl (by first | exact Or.inl rfl | exact Or.inr rfl)) (ess_one (es_for (g := .tup [.one 3, .tup [.one 4, .one 5]]) own_cx rfl (ei_enum rfl D.n_enumerate (ev_var (pv 0))) (pg_tup rfl (pgs_cons (pg_name (i := 3) sc_law_begins.nd rfl (by first | exact Or.inl rfl | exact Or.inr rfl)) (pgs_cons (pg_tup rfl (pgs_cons (pg_name (i := 4) sc_law_begins.nd rfl (by first | exact Or.inl rfl | exact Or.inr rfl)) (pgs_cons (pg_name (i := 5) sc_law_begins.nd rfl (by first | exact Or.inl rfl | exact Or.inr rfl)) (pgs_nil)))) (pgs_nil)))) (ess_one (es_setIx (ev_callB (cr_maxD rfl) rfl D.n_max bb_max (el_cons selW (ev_op op_addD (ev_lst (el_cons selS (ev_int) (el_nil))) (ev_lc (own := [("one", 6)]) (g := .one 6) rfl sc_law_begins.nd (ei_seq (ev_var (pv 5))) (blkOk_by (N := N_law_begins) (sc := defScope s_law_begins) (by decide +kernel)) (by decide) (fun _ _ _ _ _ => pg_name (i := 6) sc_law_begins.nd rfl (Or.inl rfl)) (fun _ _ _ _ _ => eb_yes) (fun _ _ _ _ _ => ev_op op_addD (ev_ix ix_D (ev_var (pv 1)) (ev_var (pv 6)) (fun _ _ => rfl)) (ev_ix ix_D (ev_ix ix_D (ev_var (pv 0)) (ev_var (pv 6)) (fun _ _ => rfl)) (ev_int) (fun _ _ => rfl))))) (el_nil))) (pv 1) (ev_var (pv 3))))))) (ess_one (es_retO (pv 1))))) p_law_begins
/-! ### _law_end -/
abbrev N_law_end : List Str := ["dish", "begin", "step"]
theorem sc_law_end : FnScope N_law_end ["dish"] (defScope s_law_end) := ⟨rfl, rfl, rfl, by decide +kernel, rfl, by decide +kernel, by decide +kernel⟩
theorem bi_law_end : BindsBy "_law_end" s_law_end ["dish"] := fun _ _ _ _ _ _ us hl => match us, hl with | [_], _ => rfl
def w_law_end : WS := wRet (wCall maxD (wCons R.wk (wLc (wIzM (wFn C_law_begins (wRcons (wV 0) (wRnil))) (wV 0)) (.tup [.one 1, .one 2]) wYes (wOp addD (wV 1) (wOp ixD (wV 2) (wC (.int 0)))) [1, 2]) (wNil)))
-- hint zipM:_law_begins(dish)
def C_law_end : Ct := fun rs Q _ => ∃ ss, rs = [.d (dsD ss)] ∧ GoodD ss ∧ (ordL ss).length = ss.length ∧ Q (.d (.int (eD ss)))
theorem l_law_end : ∀ rs Q X, C_law_end rs Q X → rs.length = 1 := by
  rintro rs Q X ⟨_, rfl, _⟩
  rfl
theorem p_law_end : ∀ rs Q X, C_law_end rs Q X → w_law_end ⟨fun _ => Q (.d .none), Q, fun _ => False, fun _ => False⟩ (startR N_law_end rs) X := by
  rintro rs Q X ⟨ss, rfl, g, ho, h⟩
  (try simp only [wIzM, wWordV, wDc, wDn, wDGet, wDIn, wDNotIn, wDPut, wRetK, wFrzK, keyOf, R.dk.injEq, R.fk.injEq, wRev, neS, wSortLL, wSetIfO, ltDD, sortedDI, wIe, isDD, isnotDD, wPar2, sumDD, eqS, reprD, wV, wC, wNil, wCons, wTup, wLst, wOp, wUn, wCall, wT, wNot, wAnd, wOr, wB, wAndV, wOrV, wNotV, wIf, wIsi, wChain, wNo, wPart, wSl, wSet, wSetO, wTg, wPnil, wPcons, wPar, wNext, wSeq, wRet, wRetO, wRetN, wIfS, wBrk, wCnt, wDrop, wFrz, wApp, wExt, wSetIx, wAugIx, wAug, wRnil, wRcons, wFn, wRaise, wWord, wRetH, wSetIxH, wCount, wIndex, wIsE, wListRg1, wListRg2, wYes, wIs, wIz, wIl, wIt, wIr1, wIr2, wSlS, wPop, wAppPop, R.wk, R.st, R.ar, R.bl, R.no, R.sq, R.slot, setsR, startR, List.map_cons, List.map_nil, List.cons_append, List.nil_append, List.length_cons, List.length_nil, List.replicate, List.getElem?_cons_zero, List.getElem?_cons_succ, Option.some.injEq, exists_eq_left', exists_eq_left, R.d.injEq, R.own.injEq, R.fr.injEq, List.set_cons_zero, List.set_cons_succ, addD, subD, mulDD, fdivD, modD, ltD, leD, gtD, geD, eqD, neD, isND, isnotND, inDD, notInDD, ixD, negD, lenD, absD, intD, min2D, max2D, listD, tupleD, slD, Nat.reduceAdd, Nat.reduceSub, Nat.add_zero, Nat.zero_add, true_and, and_true, ite_true, ite_false, if_true, if_false, Bool.false_eq_true, reduceIte, Option.some_inj, Bool.true_eq_false, tgW, tgWs, wipe3, List.set_nil, w_law_end, wLc, C_law_begins])
  refine ⟨ss, rfl, g, ho, ?_⟩
  (try simp only [wIzM, wWordV, wDc, wDn, wDGet, wDIn, wDNotIn, wDPut, wRetK, wFrzK, keyOf, R.dk.injEq, R.fk.injEq, wRev, neS, wSortLL, wSetIfO, ltDD, sortedDI, wIe, isDD, isnotDD, wPar2, sumDD, eqS, reprD, wV, wC, wNil, wCons, wTup, wLst, wOp, wUn, wCall, wT, wNot, wAnd, wOr, wB, wAndV, wOrV, wNotV, wIf, wIsi, wChain, wNo, wPart, wSl, wSet, wSetO, wTg, wPnil, wPcons, wPar, wNext, wSeq, wRet, wRetO, wRetN, wIfS, wBrk, wCnt, wDrop, wFrz, wApp, wExt, wSetIx, wAugIx, wAug, wRnil, wRcons, wFn, wRaise, wWord, wRetH, wSetIxH, wCount, wIndex, wIsE, wListRg1, wListRg2, wYes, wIs, wIz, wIl, wIt, wIr1, wIr2, wSlS, wPop, wAppPop, R.wk, R.st, R.ar, R.bl, R.no, R.sq, R.slot, setsR, startR, List.map_cons, List.map_nil, List.cons_append, List.nil_append, List.length_cons, List.length_nil, List.replicate, List.getElem?_cons_zero, List.getElem?_cons_succ, Option.some.injEq, exists_eq_left', exists_eq_left, R.d.injEq, R.own.injEq, R.fr.injEq, List.set_cons_zero, List.set_cons_succ, addD, subD, mulDD, fdivD, modD, ltD, leD, gtD, geD, eqD, neD, isND, isnotND, inDD, notInDD, ixD, negD, lenD, absD, intD, min2D, max2D, listD, tupleD, slD, Nat.reduceAdd, Nat.reduceSub, Nat.add_zero, Nat.zero_add, true_and, and_true, ite_true, ite_false, if_true, if_false, Bool.false_eq_true, reduceIte, Option.some_inj, Bool.true_eq_false, tgW, tgWs, wipe3, List.set_nil])
  rw [bL, map_int, ss_range ss stepD, zip_rr]
  refine lc_mapm (fun i => .tuple [.int (lp (Wf ss) (df ss) ss.length i), stepD (df ss i, Wf ss i)]) (fun i => .int (lp (Wf ss) (df ss) ss.length i + df ss i)) _ (fun a b e => ?_) (fun i hi k hk => ?_) ?_
  · injection e with e
    injection e with e1 e2
    injection e2 with e2 _
    injection e1 with e1
    have := congrArg Prod.fst (stepD_inj e2)
    have this' : df ss a = df ss b := this
    show PyData.int (lp (Wf ss) (df ss) ss.length a + df ss a) = .int (lp (Wf ss) (df ss) ss.length b + df ss b)
    rw [e1, this']
  · (try simp only [wIzM, wWordV, wDc, wDn, wDGet, wDIn, wDNotIn, wDPut, wRetK, wFrzK, keyOf, R.dk.injEq, R.fk.injEq, wRev, neS, wSortLL, wSetIfO, ltDD, sortedDI, wIe, isDD, isnotDD, wPar2, sumDD, eqS, reprD, wV, wC, wNil, wCons, wTup, wLst, wOp, wUn, wCall, wT, wNot, wAnd, wOr, wB, wAndV, wOrV, wNotV, wIf, wIsi, wChain, wNo, wPart, wSl, wSet, wSetO, wTg, wPnil, wPcons, wPar, wNext, wSeq, wRet, wRetO, wRetN, wIfS, wBrk, wCnt, wDrop, wFrz, wApp, wExt, wSetIx, wAugIx, wAug, wRnil, wRcons, wFn, wRaise, wWord, wRetH, wSetIxH, wCount, wIndex, wIsE, wListRg1, wListRg2, wYes, wIs, wIz, wIl, wIt, wIr1, wIr2, wSlS, wPop, wAppPop, R.wk, R.st, R.ar, R.bl, R.no, R.sq, R.slot, setsR, startR, List.map_cons, List.map_nil, List.cons_append, List.nil_append, List.length_cons, List.length_nil, List.replicate, List.getElem?_cons_zero, List.getElem?_cons_succ, Option.some.injEq, exists_eq_left', exists_eq_left, R.d.injEq, R.own.injEq, R.fr.injEq, List.set_cons_zero, List.set_cons_succ, addD, subD, mulDD, fdivD, modD, ltD, leD, gtD, geD, eqD, neD, isND, isnotND, inDD, notInDD, ixD, negD, lenD, absD, intD, min2D, max2D, listD, tupleD, slD, Nat.reduceAdd, Nat.reduceSub, Nat.add_zero, Nat.zero_add, true_and, and_true, ite_true, ite_false, if_true, if_false, Bool.false_eq_true, reduceIte, Option.some_inj, Bool.true_eq_false, tgW, tgWs, wipe3, List.set_nil, at0])
    exact hk
  · (try simp only [wIzM, wWordV, wDc, wDn, wDGet, wDIn, wDNotIn, wDPut, wRetK, wFrzK, keyOf, R.dk.injEq, R.fk.injEq, wRev, neS, wSortLL, wSetIfO, ltDD, sortedDI, wIe, isDD, isnotDD, wPar2, sumDD, eqS, reprD, wV, wC, wNil, wCons, wTup, wLst, wOp, wUn, wCall, wT, wNot, wAnd, wOr, wB, wAndV, wOrV, wNotV, wIf, wIsi, wChain, wNo, wPart, wSl, wSet, wSetO, wTg, wPnil, wPcons, wPar, wNext, wSeq, wRet, wRetO, wRetN, wIfS, wBrk, wCnt, wDrop, wFrz, wApp, wExt, wSetIx, wAugIx, wAug, wRnil, wRcons, wFn, wRaise, wWord, wRetH, wSetIxH, wCount, wIndex, wIsE, wListRg1, wListRg2, wYes, wIs, wIz, wIl, wIt, wIr1, wIr2, wSlS, wPop, wAppPop, R.wk, R.st, R.ar, R.bl, R.no, R.sq, R.slot, setsR, startR, List.map_cons, List.map_nil, List.cons_append, List.nil_append, List.length_cons, List.length_nil, List.replicate, List.getElem?_cons_zero, List.getElem?_cons_succ, Option.some.injEq, exists_eq_left', exists_eq_left, R.d.injEq, R.own.injEq, R.fr.injEq, List.set_cons_zero, List.set_cons_succ, addD, subD, mulDD, fdivD, modD, ltD, leD, gtD, geD, eqD, neD, isND, isnotND, inDD, notInDD, ixD, negD, lenD, absD, intD, min2D, max2D, listD, tupleD, slD, Nat.reduceAdd, Nat.reduceSub, Nat.add_zero, Nat.zero_add, true_and, and_true, ite_true, ite_false, if_true, if_false, Bool.false_eq_true, reduceIte, Option.some_inj, Bool.true_eq_false, tgW, tgWs, wipe3, List.set_nil])
    exact max_is g ⟨trivial, h⟩
theorem ok_law_end (D : Txt K mg base T) : Cal false P w K mg base T 2 "_law_end" C_law_end :=
  cal_of (wb := w_law_end) D.d_law_end sc_law_end bi_law_end l_law_end (fun f cdv A outer s H E hp hr hgd => ess_one (es_ret (ev_callB (cr_maxD rfl) rfl D.n_max bb_max (el_cons selW (ev_lc (own := [("begin", 1), ("step", 2)]) (g := .tup [.one 1, .one 2]) rfl sc_law_end.nd (ei_zipM rfl D.n_zip (ev_fnC (ok_law_begins D) hr (by decide) (fun h => by cases h) rfl pass_cx (er_cons (ev_var (pv 0)) (er_nil))) (ev_var (pv 0))) (blkOk_by (N := N_law_end) (sc := defScope s_law_end) (by decide +kernel)) (by decide) (fun _ _ _ _ _ => pg_tup rfl (pgs_cons (pg_name (i := 1) sc_law_end.nd rfl (Or.inl rfl)) (pgs_cons (pg_name (i := 2) sc_law_end.nd rfl (Or.inl rfl)) (pgs_nil)))) (fun _ _ _ _ _ => eb_yes) (fun _ _ _ _ _ => ev_op op_addD (ev_var (pv 1)) (ev_ix ix_D (ev_var (pv 2)) (ev_int) (fun _ _ => rfl)))) (el_nil))))) p_law_end
/-! ### _law_latest -/
abbrev N_law_latest : List Str := ["dish", "end", "found", "turn", "step", "minutes", "waits", "one"]
theorem sc_law_latest : FnScope N_law_latest ["dish"] (defScope s_law_latest) := ⟨rfl, rfl, rfl, by decide +kernel, rfl, by decide +kernel, by decide +kernel⟩
theorem bi_law_latest : BindsBy "_law_latest" s_law_latest ["dish"] := fun _ _ _ _ _ _ us hl => match us, hl with | [_], _ => rfl
def b3_law_latest : WS := wSetIx 2 (wV 7) (wCall min2D (wCons R.wk (wOp ixD (wV 2) (wV 7)) (wCons R.wk (wOp subD (wOp ixD (wV 2) (wV 4)) (wOp ixD (wOp ixD (wV 0) (wV 7)) (wC (.int 0)))) (wNil))))
def b2_law_latest : WS := wFor (wIs (wV 6)) (.one 7) (b3_law_latest)
def b1_law_latest : WS := wFor (wIe (wV 0)) (.tup [.one 4, .tup [.one 5, .one 6]]) (b2_law_latest)
def w_law_latest_3 : WS := wRetO 2
def w_law_latest_2 : WS := wSeq (wFor (wIr1 (wCall lenD (wCons R.wk (wV 0) (wNil)))) (.one 3) (b1_law_latest)) (w_law_latest_3)
def w_law_latest_1 : WS := wSeq (wSetO 2 (wLc (wIs (wV 0)) (.tup [.one 5, .one 6]) wYes (wOp subD (wV 1) (wV 5)) [5, 6])) (w_law_latest_2)
def w_law_latest : WS := wSeq (wSet 1 (wFn C_law_end (wRcons (wV 0) (wRnil)))) (w_law_latest_1)
-- splitall
def C_law_latest : Ct := fun rs Q _ => ∃ ss, rs = [.d (dsD ss)] ∧ GoodD ss ∧ (ordL ss).length = ss.length ∧ Q (.fr ((lLs ss).map .int))
theorem l_law_latest : ∀ rs Q X, C_law_latest rs Q X → rs.length = 1 := by
  rintro rs Q X ⟨_, rfl, _⟩
  rfl
theorem p_law_latest : ∀ rs Q X, C_law_latest rs Q X → w_law_latest ⟨fun _ => Q (.d .none), Q, fun _ => False, fun _ => False⟩ (startR N_law_latest rs) X := by
  rintro rs Q X ⟨ss, rfl, g, ho, h⟩
  have hz := sizeLine_eq
  have n10 := g.n10
  have hr := ord_rk ho
  generalize (fun i => (ordL ss).idxOf i) = r at hr
  have hrr := rk_rev hr
  generalize hq : (fun i => ss.length - 1 - r i) = q at hrr
  (try simp only [wIzM, wWordV, wDc, wDn, wDGet, wDIn, wDNotIn, wDPut, wRetK, wFrzK, keyOf, R.dk.injEq, R.fk.injEq, wRev, neS, wSortLL, wSetIfO, ltDD, sortedDI, wIe, isDD, isnotDD, wPar2, sumDD, eqS, reprD, wV, wC, wNil, wCons, wTup, wLst, wOp, wUn, wCall, wT, wNot, wAnd, wOr, wB, wAndV, wOrV, wNotV, wIf, wIsi, wChain, wNo, wPart, wSl, wSet, wSetO, wTg, wPnil, wPcons, wPar, wNext, wSeq, wRet, wRetO, wRetN, wIfS, wBrk, wCnt, wDrop, wFrz, wApp, wExt, wSetIx, wAugIx, wAug, wRnil, wRcons, wFn, wRaise, wWord, wRetH, wSetIxH, wCount, wIndex, wIsE, wListRg1, wListRg2, wYes, wIs, wIz, wIl, wIt, wIr1, wIr2, wSlS, wPop, wAppPop, R.wk, R.st, R.ar, R.bl, R.no, R.sq, R.slot, setsR, startR, List.map_cons, List.map_nil, List.cons_append, List.nil_append, List.length_cons, List.length_nil, List.replicate, List.getElem?_cons_zero, List.getElem?_cons_succ, Option.some.injEq, exists_eq_left', exists_eq_left, R.d.injEq, R.own.injEq, R.fr.injEq, List.set_cons_zero, List.set_cons_succ, addD, subD, mulDD, fdivD, modD, ltD, leD, gtD, geD, eqD, neD, isND, isnotND, inDD, notInDD, ixD, negD, lenD, absD, intD, min2D, max2D, listD, tupleD, slD, Nat.reduceAdd, Nat.reduceSub, Nat.add_zero, Nat.zero_add, true_and, and_true, ite_true, ite_false, if_true, if_false, Bool.false_eq_true, reduceIte, Option.some_inj, Bool.true_eq_false, tgW, tgWs, wipe3, List.set_nil, w_law_latest, C_law_end])
  refine ⟨ss, rfl, g, ho, ?_⟩
  (try simp only [wIzM, wWordV, wDc, wDn, wDGet, wDIn, wDNotIn, wDPut, wRetK, wFrzK, keyOf, R.dk.injEq, R.fk.injEq, wRev, neS, wSortLL, wSetIfO, ltDD, sortedDI, wIe, isDD, isnotDD, wPar2, sumDD, eqS, reprD, wV, wC, wNil, wCons, wTup, wLst, wOp, wUn, wCall, wT, wNot, wAnd, wOr, wB, wAndV, wOrV, wNotV, wIf, wIsi, wChain, wNo, wPart, wSl, wSet, wSetO, wTg, wPnil, wPcons, wPar, wNext, wSeq, wRet, wRetO, wRetN, wIfS, wBrk, wCnt, wDrop, wFrz, wApp, wExt, wSetIx, wAugIx, wAug, wRnil, wRcons, wFn, wRaise, wWord, wRetH, wSetIxH, wCount, wIndex, wIsE, wListRg1, wListRg2, wYes, wIs, wIz, wIl, wIt, wIr1, wIr2, wSlS, wPop, wAppPop, R.wk, R.st, R.ar, R.bl, R.no, R.sq, R.slot, setsR, startR, List.map_cons, List.map_nil, List.cons_append, List.nil_append, List.length_cons, List.length_nil, List.replicate, List.getElem?_cons_zero, List.getElem?_cons_succ, Option.some.injEq, exists_eq_left', exists_eq_left, R.d.injEq, R.own.injEq, R.fr.injEq, List.set_cons_zero, List.set_cons_succ, addD, subD, mulDD, fdivD, modD, ltD, leD, gtD, geD, eqD, neD, isND, isnotND, inDD, notInDD, ixD, negD, lenD, absD, intD, min2D, max2D, listD, tupleD, slD, Nat.reduceAdd, Nat.reduceSub, Nat.add_zero, Nat.zero_add, true_and, and_true, ite_true, ite_false, if_true, if_false, Bool.false_eq_true, reduceIte, Option.some_inj, Bool.true_eq_false, tgW, tgWs, wipe3, List.set_nil, w_law_latest_1, wLc])
  refine lc_mapm stepD (fun p => .int (eD ss - p.1)) ss (fun a b e => by rw [stepD_inj e]) (fun p hp k hk => ?_) ?_
  · (try simp only [wIzM, wWordV, wDc, wDn, wDGet, wDIn, wDNotIn, wDPut, wRetK, wFrzK, keyOf, R.dk.injEq, R.fk.injEq, wRev, neS, wSortLL, wSetIfO, ltDD, sortedDI, wIe, isDD, isnotDD, wPar2, sumDD, eqS, reprD, wV, wC, wNil, wCons, wTup, wLst, wOp, wUn, wCall, wT, wNot, wAnd, wOr, wB, wAndV, wOrV, wNotV, wIf, wIsi, wChain, wNo, wPart, wSl, wSet, wSetO, wTg, wPnil, wPcons, wPar, wNext, wSeq, wRet, wRetO, wRetN, wIfS, wBrk, wCnt, wDrop, wFrz, wApp, wExt, wSetIx, wAugIx, wAug, wRnil, wRcons, wFn, wRaise, wWord, wRetH, wSetIxH, wCount, wIndex, wIsE, wListRg1, wListRg2, wYes, wIs, wIz, wIl, wIt, wIr1, wIr2, wSlS, wPop, wAppPop, R.wk, R.st, R.ar, R.bl, R.no, R.sq, R.slot, setsR, startR, List.map_cons, List.map_nil, List.cons_append, List.nil_append, List.length_cons, List.length_nil, List.replicate, List.getElem?_cons_zero, List.getElem?_cons_succ, Option.some.injEq, exists_eq_left', exists_eq_left, R.d.injEq, R.own.injEq, R.fr.injEq, List.set_cons_zero, List.set_cons_succ, addD, subD, mulDD, fdivD, modD, ltD, leD, gtD, geD, eqD, neD, isND, isnotND, inDD, notInDD, ixD, negD, lenD, absD, intD, min2D, max2D, listD, tupleD, slD, Nat.reduceAdd, Nat.reduceSub, Nat.add_zero, Nat.zero_add, true_and, and_true, ite_true, ite_false, if_true, if_false, Bool.false_eq_true, reduceIte, Option.some_inj, Bool.true_eq_false, tgW, tgWs, wipe3, List.set_nil])
    exact hk
  have e0 : ss.map (fun p => PyData.int (eD ss - p.1)) = ((List.range ss.length).map fun i => eD ss - df ss i).map .int := by
    rw [ss_range ss fun p => PyData.int (eD ss - p.1), map_int]
  rw [e0]
  (try simp only [wIzM, wWordV, wDc, wDn, wDGet, wDIn, wDNotIn, wDPut, wRetK, wFrzK, keyOf, R.dk.injEq, R.fk.injEq, wRev, neS, wSortLL, wSetIfO, ltDD, sortedDI, wIe, isDD, isnotDD, wPar2, sumDD, eqS, reprD, wV, wC, wNil, wCons, wTup, wLst, wOp, wUn, wCall, wT, wNot, wAnd, wOr, wB, wAndV, wOrV, wNotV, wIf, wIsi, wChain, wNo, wPart, wSl, wSet, wSetO, wTg, wPnil, wPcons, wPar, wNext, wSeq, wRet, wRetO, wRetN, wIfS, wBrk, wCnt, wDrop, wFrz, wApp, wExt, wSetIx, wAugIx, wAug, wRnil, wRcons, wFn, wRaise, wWord, wRetH, wSetIxH, wCount, wIndex, wIsE, wListRg1, wListRg2, wYes, wIs, wIz, wIl, wIt, wIr1, wIr2, wSlS, wPop, wAppPop, R.wk, R.st, R.ar, R.bl, R.no, R.sq, R.slot, setsR, startR, List.map_cons, List.map_nil, List.cons_append, List.nil_append, List.length_cons, List.length_nil, List.replicate, List.getElem?_cons_zero, List.getElem?_cons_succ, Option.some.injEq, exists_eq_left', exists_eq_left, R.d.injEq, R.own.injEq, R.fr.injEq, List.set_cons_zero, List.set_cons_succ, addD, subD, mulDD, fdivD, modD, ltD, leD, gtD, geD, eqD, neD, isND, isnotND, inDD, notInDD, ixD, negD, lenD, absD, intD, min2D, max2D, listD, tupleD, slD, Nat.reduceAdd, Nat.reduceSub, Nat.add_zero, Nat.zero_add, true_and, and_true, ite_true, ite_false, if_true, if_false, Bool.false_eq_true, reduceIte, Option.some_inj, Bool.true_eq_false, tgW, tgWs, wipe3, List.set_nil, w_law_latest_2, wFor, List.length_map])
  refine ⟨by omega, ?_⟩
  have dn : ∀ i j, i < ss.length → j < ss.length → i ∈ Wf ss j → q j < q i := fun i j hi hj hm => (hrr.dn i hi j (wr_mem.mpr ⟨hj, hm⟩)).2
  refine for_rule (fun rest ρ => ∃ (t : Nat) (v : List Int) (o3 o4 o5 o6 o7 : Option R), t ≤ ss.length ∧ rest = rgD t ss.length ∧ Lv (Wf ss) (df ss) ss.length (fun _ _ => False) v ∧ (∀ i, i < ss.length → q i ≤ t → gv v i = lL (Wf ss) (df ss) ss.length i) ∧ ρ = [some (.d (dsD ss)), some (.d (.int (eD ss))), some (.own (v.map .int)), o3, o4, o5, o6, o7]) _ _ ⟨0, _, none, none, none, none, none, by omega, rfl, lv_start, fun i hi c => lv_at hr lv_start hi fun j hj hm => by
    have := dn i j hi hj hm
    omega, rfl⟩ ?_ ?_
  · rintro ρ ⟨t, v, o3, o4, o5, o6, o7, f0, f1, l, c, rfl⟩
    have ht := rg_nil f1
    (try simp only [wIzM, wWordV, wDc, wDn, wDGet, wDIn, wDNotIn, wDPut, wRetK, wFrzK, keyOf, R.dk.injEq, R.fk.injEq, wRev, neS, wSortLL, wSetIfO, ltDD, sortedDI, wIe, isDD, isnotDD, wPar2, sumDD, eqS, reprD, wV, wC, wNil, wCons, wTup, wLst, wOp, wUn, wCall, wT, wNot, wAnd, wOr, wB, wAndV, wOrV, wNotV, wIf, wIsi, wChain, wNo, wPart, wSl, wSet, wSetO, wTg, wPnil, wPcons, wPar, wNext, wSeq, wRet, wRetO, wRetN, wIfS, wBrk, wCnt, wDrop, wFrz, wApp, wExt, wSetIx, wAugIx, wAug, wRnil, wRcons, wFn, wRaise, wWord, wRetH, wSetIxH, wCount, wIndex, wIsE, wListRg1, wListRg2, wYes, wIs, wIz, wIl, wIt, wIr1, wIr2, wSlS, wPop, wAppPop, R.wk, R.st, R.ar, R.bl, R.no, R.sq, R.slot, setsR, startR, List.map_cons, List.map_nil, List.cons_append, List.nil_append, List.length_cons, List.length_nil, List.replicate, List.getElem?_cons_zero, List.getElem?_cons_succ, Option.some.injEq, exists_eq_left', exists_eq_left, R.d.injEq, R.own.injEq, R.fr.injEq, List.set_cons_zero, List.set_cons_succ, addD, subD, mulDD, fdivD, modD, ltD, leD, gtD, geD, eqD, neD, isND, isnotND, inDD, notInDD, ixD, negD, lenD, absD, intD, min2D, max2D, listD, tupleD, slD, Nat.reduceAdd, Nat.reduceSub, Nat.add_zero, Nat.zero_add, true_and, and_true, ite_true, ite_false, if_true, if_false, Bool.false_eq_true, reduceIte, Option.some_inj, Bool.true_eq_false, tgW, tgWs, wipe3, List.set_nil, w_law_latest_3])
    have : v = lLs ss := vals_eq l.len fun i hi => c i hi (by have := hrr.lt i hi; omega)
    rw [this]
    exact h
  · rintro y rest ρ ⟨t, v, o3, o4, o5, o6, o7, f0, f1, l, c, rfl⟩ N hN
    obtain ⟨f2, rfl, f3⟩ := rg_if f1
    (try simp only [wIzM, wWordV, wDc, wDn, wDGet, wDIn, wDNotIn, wDPut, wRetK, wFrzK, keyOf, R.dk.injEq, R.fk.injEq, wRev, neS, wSortLL, wSetIfO, ltDD, sortedDI, wIe, isDD, isnotDD, wPar2, sumDD, eqS, reprD, wV, wC, wNil, wCons, wTup, wLst, wOp, wUn, wCall, wT, wNot, wAnd, wOr, wB, wAndV, wOrV, wNotV, wIf, wIsi, wChain, wNo, wPart, wSl, wSet, wSetO, wTg, wPnil, wPcons, wPar, wNext, wSeq, wRet, wRetO, wRetN, wIfS, wBrk, wCnt, wDrop, wFrz, wApp, wExt, wSetIx, wAugIx, wAug, wRnil, wRcons, wFn, wRaise, wWord, wRetH, wSetIxH, wCount, wIndex, wIsE, wListRg1, wListRg2, wYes, wIs, wIz, wIl, wIt, wIr1, wIr2, wSlS, wPop, wAppPop, R.wk, R.st, R.ar, R.bl, R.no, R.sq, R.slot, setsR, startR, List.map_cons, List.map_nil, List.cons_append, List.nil_append, List.length_cons, List.length_nil, List.replicate, List.getElem?_cons_zero, List.getElem?_cons_succ, Option.some.injEq, exists_eq_left', exists_eq_left, R.d.injEq, R.own.injEq, R.fr.injEq, List.set_cons_zero, List.set_cons_succ, addD, subD, mulDD, fdivD, modD, ltD, leD, gtD, geD, eqD, neD, isND, isnotND, inDD, notInDD, ixD, negD, lenD, absD, intD, min2D, max2D, listD, tupleD, slD, Nat.reduceAdd, Nat.reduceSub, Nat.add_zero, Nat.zero_add, true_and, and_true, ite_true, ite_false, if_true, if_false, Bool.false_eq_true, reduceIte, Option.some_inj, Bool.true_eq_false, tgW, tgWs, wipe3, List.set_nil, b1_law_latest, wFor])
    refine for_rule (fun rest2 ρ => ∃ (s : Nat) (v : List Int) (o4 o5 o6 o7 : Option R), s ≤ ss.length ∧ rest2 = enumD s ((ss.drop s).map stepD) ∧ Lv (Wf ss) (df ss) ss.length (fun j i => j < s ∧ q j ≤ t ∧ i ∈ Wf ss j) v ∧ (∀ i, i < ss.length → q i ≤ t → gv v i = lL (Wf ss) (df ss) ss.length i) ∧ ρ = [some (.d (dsD ss)), some (.d (.int (eD ss))), some (.own (v.map .int)), some (.d (.int t)), o4, o5, o6, o7]) _ _ ⟨0, v, o4, o5, o6, o7, by omega, rfl, lv_weak l fun j i _ z => absurd z.1 (Nat.not_lt_zero _), c, rfl⟩ ?_ ?_
    · rintro ρ ⟨s, v, o4, o5, o6, o7, g0, g1, l, c, rfl⟩
      have hs : ss.length ≤ s := by
        rcases Nat.lt_or_ge s ss.length with c | c
        · rw [en_step c] at g1
          cases g1
        · exact c
      refine hN _ ⟨t + 1, v, _, _, _, _, _, f2, f3, lv_weak l fun _ _ _ z => z.elim, fun i hi z => lv_at hr l hi fun j hj hm => ⟨by omega, ?_, hm⟩, rfl⟩
      have := dn i j hi hj hm
      omega
    · rintro y2 rest2 ρ ⟨s, v, o4, o5, o6, o7, g0, g1, l, c, rfl⟩ N2 hN2
      have hs : s < ss.length := by
        rcases Nat.lt_or_ge s ss.length with c | c
        · exact c
        · rw [en_end c] at g1
          cases g1
      rw [en_step hs] at g1
      injection g1 with g1 g2
      subst g1
      (try simp only [wIzM, wWordV, wDc, wDn, wDGet, wDIn, wDNotIn, wDPut, wRetK, wFrzK, keyOf, R.dk.injEq, R.fk.injEq, wRev, neS, wSortLL, wSetIfO, ltDD, sortedDI, wIe, isDD, isnotDD, wPar2, sumDD, eqS, reprD, wV, wC, wNil, wCons, wTup, wLst, wOp, wUn, wCall, wT, wNot, wAnd, wOr, wB, wAndV, wOrV, wNotV, wIf, wIsi, wChain, wNo, wPart, wSl, wSet, wSetO, wTg, wPnil, wPcons, wPar, wNext, wSeq, wRet, wRetO, wRetN, wIfS, wBrk, wCnt, wDrop, wFrz, wApp, wExt, wSetIx, wAugIx, wAug, wRnil, wRcons, wFn, wRaise, wWord, wRetH, wSetIxH, wCount, wIndex, wIsE, wListRg1, wListRg2, wYes, wIs, wIz, wIl, wIt, wIr1, wIr2, wSlS, wPop, wAppPop, R.wk, R.st, R.ar, R.bl, R.no, R.sq, R.slot, setsR, startR, List.map_cons, List.map_nil, List.cons_append, List.nil_append, List.length_cons, List.length_nil, List.replicate, List.getElem?_cons_zero, List.getElem?_cons_succ, Option.some.injEq, exists_eq_left', exists_eq_left, R.d.injEq, R.own.injEq, R.fr.injEq, List.set_cons_zero, List.set_cons_succ, addD, subD, mulDD, fdivD, modD, ltD, leD, gtD, geD, eqD, neD, isND, isnotND, inDD, notInDD, ixD, negD, lenD, absD, intD, min2D, max2D, listD, tupleD, slD, Nat.reduceAdd, Nat.reduceSub, Nat.add_zero, Nat.zero_add, true_and, and_true, ite_true, ite_false, if_true, if_false, Bool.false_eq_true, reduceIte, Option.some_inj, Bool.true_eq_false, tgW, tgWs, wipe3, List.set_nil, b2_law_latest, wFor])
      refine for_rule (fun rest3 ρ => ∃ (dn' td : List Nat) (v : List Int) (o7 : Option R), Wf ss s = dn' ++ td ∧ rest3 = (natI td).map .int ∧ Lv (Wf ss) (df ss) ss.length (fun j i => (j < s ∧ q j ≤ t ∧ i ∈ Wf ss j) ∨ (j = s ∧ q s ≤ t ∧ i ∈ dn')) v ∧ (∀ i, i < ss.length → q i ≤ t → gv v i = lL (Wf ss) (df ss) ss.length i) ∧ ρ = [some (.d (dsD ss)), some (.d (.int (eD ss))), some (.own (v.map .int)), some (.d (.int t)), some (.d (.int s)), some (.d (.int (df ss s))), some (.d (.tuple ((natI (Wf ss s)).map .int))), o7]) _ _ ⟨[], Wf ss s, v, o7, rfl, rfl, lv_weak l fun j i _ z => z.resolve_right (fun c => by cases c.2.2), c, rfl⟩ ?_ ?_
      · rintro ρ ⟨dn', td, v, o7, k1, k2, l, c, rfl⟩
        cases td with
        | cons a r => cases k2
        | nil =>
        rw [List.append_nil] at k1
        refine hN2 _ ⟨s + 1, v, _, _, _, _, hs, g2, lv_weak l fun j i _ z => ?_, c, rfl⟩
        obtain ⟨z1, z2, z3⟩ := z
        by_cases e : j = s
        · subst e
          exact .inr ⟨rfl, z2, by rw [← k1]; exact z3⟩
        · exact .inl ⟨by omega, z2, z3⟩
      · rintro y3 rest3 ρ ⟨dn', td, v, o7, k1, k2, l, c, rfl⟩ N3 hN3
        cases td with
        | nil => cases k2
        | cons i td =>
        injection k2 with k2 k3
        subst k2
        have hi : i ∈ Wf ss s := by rw [k1]; simp
        have hin := (hr.dn s hs i hi).1
        have hv1 : i < v.length := by rw [l.len]; exact hin
        have hv2 : s < v.length := by rw [l.len]; exact hs
        have hv3 : i < (v.map PyData.int).length := by rw [List.length_map]; exact hv1
        (try simp only [wIzM, wWordV, wDc, wDn, wDGet, wDIn, wDNotIn, wDPut, wRetK, wFrzK, keyOf, R.dk.injEq, R.fk.injEq, wRev, neS, wSortLL, wSetIfO, ltDD, sortedDI, wIe, isDD, isnotDD, wPar2, sumDD, eqS, reprD, wV, wC, wNil, wCons, wTup, wLst, wOp, wUn, wCall, wT, wNot, wAnd, wOr, wB, wAndV, wOrV, wNotV, wIf, wIsi, wChain, wNo, wPart, wSl, wSet, wSetO, wTg, wPnil, wPcons, wPar, wNext, wSeq, wRet, wRetO, wRetN, wIfS, wBrk, wCnt, wDrop, wFrz, wApp, wExt, wSetIx, wAugIx, wAug, wRnil, wRcons, wFn, wRaise, wWord, wRetH, wSetIxH, wCount, wIndex, wIsE, wListRg1, wListRg2, wYes, wIs, wIz, wIl, wIt, wIr1, wIr2, wSlS, wPop, wAppPop, R.wk, R.st, R.ar, R.bl, R.no, R.sq, R.slot, setsR, startR, List.map_cons, List.map_nil, List.cons_append, List.nil_append, List.length_cons, List.length_nil, List.replicate, List.getElem?_cons_zero, List.getElem?_cons_succ, Option.some.injEq, exists_eq_left', exists_eq_left, R.d.injEq, R.own.injEq, R.fr.injEq, List.set_cons_zero, List.set_cons_succ, addD, subD, mulDD, fdivD, modD, ltD, leD, gtD, geD, eqD, neD, isND, isnotND, inDD, notInDD, ixD, negD, lenD, absD, intD, min2D, max2D, listD, tupleD, slD, Nat.reduceAdd, Nat.reduceSub, Nat.add_zero, Nat.zero_add, true_and, and_true, ite_true, ite_false, if_true, if_false, Bool.false_eq_true, reduceIte, Option.some_inj, Bool.true_eq_false, tgW, tgWs, wipe3, List.set_nil, b3_law_latest, at_gv hv1, at_gv hv2, at_step hin, at0])
        refine ⟨i, ix_of hv3, ?_⟩
        rw [set_map]
        have z := lv_step hr l hs hi
        have l' := lv_weak z.1 (S' := fun j k => (j < s ∧ q j ≤ t ∧ k ∈ Wf ss j) ∨ (j = s ∧ q s ≤ t ∧ k ∈ dn' ++ [i])) fun j k _ w => by
          rcases w with w | ⟨w1, w2, w4⟩
          · exact .inl (.inl w)
          · rcases List.mem_append.mp w4 with c' | c'
            · exact .inl (.inr ⟨w1, w2, c'⟩)
            · exact .inr ⟨w1, List.mem_singleton.mp c', c s hs w2⟩
        refine hN3 _ ⟨dn' ++ [i], td, _, _, by rw [k1]; simp, k3, l', fun x hx w => ?_, rfl⟩
        have a1 := l'.lo x hx
        have a2 := z.2 x
        have a3 := c x hx w
        omega
theorem ok_law_latest (D : Txt K mg base T) : Cal false P w K mg base T 3 "_law_latest" C_law_latest :=
  cal_of (wb := w_law_latest) D.d_law_latest sc_law_latest bi_law_latest l_law_latest (fun f cdv A outer s H E hp hr hgd => ess_cons (es_set (i := 1) sc_law_latest.nd rfl (by first | exact Or.inl rfl | exact Or.inr rfl) (ev_fnC (ok_law_end D) hr (by decide) (fun h => by cases h) rfl pass_cx (er_cons (ev_var (pv 0)) (er_nil)))) (ess_cons (es_setLcO (i := 2) (own := [("minutes", 5), ("waits", 6)]) (g := .tup [.one 5, .one 6]) rfl sc_law_latest.nd rfl rfl (sw_true rfl rfl rfl (by decide +kernel)) (ei_seq (ev_var (pv 0))) (blkOk_by (N := N_law_latest) (sc := defScope s_law_latest) (by decide +kernel)) (by decide) (fun _ _ _ _ _ => pg_tup rfl (pgs_cons (pg_name (i := 5) sc_law_latest.nd rfl (Or.inl rfl)) (pgs_cons (pg_name (i := 6) sc_law_latest.nd rfl (Or.inl rfl)) (pgs_nil)))) (fun _ _ _ _ _ => eb_yes) (fun _ _ _ _ _ => ev_op op_subD (ev_var (pv 1)) (ev_var (pv 5)))) (ess_cons (es_for (g := .one 3) own_cx rfl (ei_rg1 rfl D.n_range (ev_callB cr_len rfl D.n_len bb_len (el_cons selW (ev_var (pv 0)) (el_nil)))) (pg_name (i := 3) sc_law_latest.nd rfl (by first | exact Or.inl rfl | exact Or.inr rfl)) (ess_one (es_for (g := .tup [.one 4, .tup [.one 5, .one 6]]) own_cx rfl (ei_enum rfl D.n_enumerate (ev_var (pv 0))) (pg_tup rfl (pgs_cons (pg_name (i := 4) sc_law_latest.nd rfl (by first | exact Or.inl rfl | exact Or.inr rfl)) (pgs_cons (pg_tup rfl (pgs_cons (pg_name (i := 5) sc_law_latest.nd rfl (by first | exact Or.inl rfl | exact Or.inr rfl)) (pgs_cons (pg_name (i := 6) sc_law_latest.nd rfl (by first | exact Or.inl rfl | exact Or.inr rfl)) (pgs_nil)))) (pgs_nil)))) (ess_one (es_for (g := .one 7) own_cx rfl (ei_seq (ev_var (pv 6))) (pg_name (i := 7) sc_law_latest.nd rfl (by first | exact Or.inl rfl | exact Or.inr rfl)) (ess_one (es_setIx (ev_callB (cr_min2 rfl) rfl D.n_min bb_min (el_cons selW (ev_ix ix_D (ev_var (pv 2)) (ev_var (pv 7)) (fun _ _ => rfl)) (el_cons selW (ev_op op_subD (ev_ix ix_D (ev_var (pv 2)) (ev_var (pv 4)) (fun _ _ => rfl)) (ev_ix ix_D (ev_ix ix_D (ev_var (pv 0)) (ev_var (pv 7)) (fun _ _ => rfl)) (ev_int) (fun _ _ => rfl))) (el_nil)))) (pv 2) (ev_var (pv 7))))))))) (ess_one (es_retO (pv 2)))))) p_law_latest
/-! ### _law_case_right -/
abbrev N_law_case_right : List Str := ["hand", "dish", "first", "last", "end", "rest", "told", "step", "minutes", "waits", "same", "more", "soon", "late"]
theorem sc_law_case_right : FnScope N_law_case_right ["hand"] (defScope s_law_case_right) := ⟨rfl, rfl, rfl, by decide +kernel, rfl, by decide +kernel, by decide +kernel⟩
theorem bi_law_case_right : BindsBy "_law_case_right" s_law_case_right ["hand"] := fun _ _ _ _ _ _ us hl => match us, hl with | [_], _ => rfl
def w_law_case_right_11 : WS := wRet (wOp eqD (wLst (wCons R.st (wFn C_least_minutes (wRcons (wV 10) (wRnil))) (wCons R.st (wFn C_least_minutes (wRcons (wV 11) (wRnil))) (wNil)))) (wLst (wCons R.st (wV 4) (wCons R.st (wOp addD (wV 4) (wC (.int 1))) (wNil)))))
def w_law_case_right_10 : WS := wSeq (wSet 11 (wOp addD (wOp addD (wSl (wV 1) wNo (wPart (wV 7))) (wTup (wCons R.st (wTup (wCons R.st (wOp addD (wOp addD (wV 8) (wOp ixD (wV 5) (wV 7))) (wC (.int 1))) (wCons R.st (wV 9) (wNil)))) (wNil)))) (wSl (wV 1) (wPart (wOp addD (wV 7) (wC (.int 1)))) wNo))) (w_law_case_right_11)
def w_law_case_right_9 : WS := wSeq (wSet 10 (wOp addD (wOp addD (wSl (wV 1) wNo (wPart (wV 7))) (wTup (wCons R.st (wTup (wCons R.st (wOp addD (wV 8) (wOp ixD (wV 5) (wV 7))) (wCons R.st (wV 9) (wNil)))) (wNil)))) (wSl (wV 1) (wPart (wOp addD (wV 7) (wC (.int 1)))) wNo))) (w_law_case_right_10)
def w_law_case_right_8 : WS := wSeq (wIfS (wT (wOp gtD (wOp addD (wV 8) (wOp ixD (wV 5) (wV 7))) (wC (.int 599)))) (wRet (wC (.bool true))) (wNext)) (w_law_case_right_9)
def w_law_case_right_7 : WS := wSeq (wTg (.tup [.one 8, .one 9]) (wOp ixD (wV 1) (wV 7))) (w_law_case_right_8)
def w_law_case_right_6 : WS := wSeq (wSet 7 (wFn C_law_draw (wRcons (wV 0) (wRcons (wCall lenD (wCons R.wk (wV 1) (wNil))) (wRnil))))) (w_law_case_right_7)
def w_law_case_right_5 : WS := wSeq (wIfS (wOr (wNot (wT (wFn C_law_is (wRcons (wV 6) (wRcons (wLst (wCons R.st (wCall tupleD (wCons R.wk (wV 2) (wNil))) (wCons R.st (wV 4) (wCons R.st (wCall tupleD (wCons R.wk (wV 3) (wNil))) (wCons R.st (wCall tupleD (wCons R.wk (wV 5) (wNil))) (wNil)))))) (wRnil)))))) (wT (wOp neD (wCall minD (wCons R.wk (wV 5) (wNil))) (wC (.int 0))))) (wRet (wC (.bool false))) (wNext)) (w_law_case_right_6)
def w_law_case_right_4 : WS := wSeq (wSet 6 (wLst (wCons R.st (wFn C_begins (wRcons (wV 1) (wRnil))) (wCons R.st (wFn C_least_minutes (wRcons (wV 1) (wRnil))) (wCons R.st (wFn C_latest_begins (wRcons (wV 1) (wRnil))) (wCons R.st (wFn C_slack (wRcons (wV 1) (wRnil))) (wNil))))))) (w_law_case_right_5)
def w_law_case_right_3 : WS := wSeq (wSet 5 (wLc (wIz (wV 2) (wV 3)) (.tup [.one 12, .one 13]) wYes (wOp subD (wV 13) (wV 12)) [12, 13])) (w_law_case_right_4)
def w_law_case_right_2 : WS := wSeq (wSet 4 (wFn C_law_end (wRcons (wV 1) (wRnil)))) (w_law_case_right_3)
def w_law_case_right_1 : WS := wSeq (wPar [2, 3] (wPcons false (wFn C_law_begins (wRcons (wV 1) (wRnil))) (wPcons false (wFn C_law_latest (wRcons (wV 1) (wRnil))) (wPnil)))) (w_law_case_right_2)
def w_law_case_right : WS := wSeq (wSet 1 (wFn C_law_dish (wRcons (wV 0) (wRcons (wC (.int 8)) (wRcons (wFn C_law_any (wRcons (wV 0) (wRcons (wLst (wCons R.st (wC (.int 3)) (wCons R.st (wC (.int 20)) (wCons R.st (wC (.int 500)) (wNil))))) (wRnil)))) (wRnil)))))) (w_law_case_right_1)
-- splitall
theorem begins_ok {ss : List St} (g : GoodD ss) (ho : (ordL ss).length = ss.length) {Q : R → Prop} {X : Exc → Prop} (h : Q (.d (tupI (bL ss)))) : C_begins [.d (dsD ss)] Q X := by
  refine ⟨_, rfl, fun e => ?_, fun ss' e _ => ?_⟩
  · rw [dish_ok g] at e
    cases e
  · cases dsD_inj e
    exact ⟨fun c => (c ho).elim, fun _ => h⟩
theorem least_ok {ss : List St} (g : GoodD ss) (ho : (ordL ss).length = ss.length) {Q : R → Prop} {X : Exc → Prop} (h : Q (.d (.int (eD ss)))) : C_least_minutes [.d (dsD ss)] Q X := by
  refine ⟨_, rfl, fun e => ?_, fun ss' e _ => ?_⟩
  · rw [dish_ok g] at e
    cases e
  · cases dsD_inj e
    exact ⟨fun c => (c ho).elim, fun _ => h⟩
theorem latest_ok {ss : List St} (g : GoodD ss) (ho : (ordL ss).length = ss.length) {Q : R → Prop} {X : Exc → Prop} (h : Q (.d (tupI (lLs ss)))) : C_latest_begins [.d (dsD ss)] Q X := by
  refine ⟨_, rfl, fun e => ?_, fun ss' e _ => ?_⟩
  · rw [dish_ok g] at e
    cases e
  · cases dsD_inj e
    exact ⟨fun c => (c ho).elim, fun _ => h⟩
theorem slack_ok {ss : List St} (g : GoodD ss) (ho : (ordL ss).length = ss.length) {Q : R → Prop} {X : Exc → Prop} (h : Q (.d (tupI (sL ss)))) : C_slack [.d (dsD ss)] Q X := by
  refine ⟨_, rfl, fun e => ?_, fun ss' e _ => ?_⟩
  · rw [dish_ok g] at e
    cases e
  · cases dsD_inj e
    exact ⟨fun c => (c ho).elim, fun _ => h⟩
theorem slack_nn {ss : List St} (ho : (ordL ss).length = ss.length) {i : Nat} (hi : i < ss.length) : 0 ≤ lL (Wf ss) (df ss) ss.length i - lp (Wf ss) (df ss) ss.length i := by
  have := path_le (d := df ss) (ord_rk ho) ss.length i hi (by omega)
  unfold lL
  omega
theorem min_zero {ss : List St} (g : GoodD ss) (ho : (ordL ss).length = ss.length) {k : R → Prop} (h : k (.d (.int 0))) : minD [.list ((sL ss).map .int)] k := by
  have n1 := g.n1
  refine ⟨sL ss, rfl, by simp [sL]; omega, fun m h1 h2 => ?_⟩
  obtain ⟨i, hi, e⟩ := crit (d := df ss) (ord_rk ho) (by omega) fun i hi => by
    have : 1 ≤ df ss i := (good_at g hi).m1
    omega
  have a := h2 (lL (Wf ss) (df ss) ss.length i - lp (Wf ss) (df ss) ss.length i) (List.mem_map.mpr ⟨i, List.mem_range.mpr hi, rfl⟩)
  obtain ⟨j, hj, rfl⟩ := List.mem_map.mp h1
  have b := slack_nn ho (List.mem_range.mp hj)
  have c : lL (Wf ss) (df ss) ss.length i - lp (Wf ss) (df ss) ss.length i = 0 := by
    unfold lL
    omega
  rw [c] at a
  have : lL (Wf ss) (df ss) ss.length j - lp (Wf ss) (df ss) ss.length j = 0 := by omega
  rw [this]
  exact h
/-- one step longer -/
def longer (ss : List St) (s : Nat) (δ : Int) : List St := ss.set s (df ss s + δ, Wf ss s)
theorem longer_get {ss : List St} {s : Nat} {δ : Int} (hs : s < ss.length) (i : Nat) : (longer ss s δ).getD i (0, []) = if i = s then (df ss s + δ, Wf ss s) else ss.getD i (0, []) := by
  unfold longer
  rw [List.getD_eq_getElem?_getD, List.getD_eq_getElem?_getD, List.getElem?_set]
  by_cases c : s = i
  · subst c
    rw [if_pos rfl, if_pos hs, if_pos rfl]
    rfl
  · rw [if_neg c, if_neg fun e => c e.symm]
theorem longer_W {ss : List St} {s : Nat} {δ : Int} (hs : s < ss.length) : Wf (longer ss s δ) = Wf ss := by
  funext i
  unfold Wf
  rw [longer_get hs]
  by_cases c : i = s
  · rw [if_pos c, c]
    rfl
  · rw [if_neg c]
theorem longer_d {ss : List St} {s : Nat} {δ : Int} (hs : s < ss.length) : (∀ i, i ≠ s → df (longer ss s δ) i = df ss i) ∧ df (longer ss s δ) s = df ss s + δ := by
  refine ⟨fun i c => ?_, ?_⟩
  · unfold df
    rw [longer_get hs, if_neg c]
  · have : df (longer ss s δ) s = ((longer ss s δ).getD s (0, [])).1 := rfl
    rw [this, longer_get hs, if_pos rfl]
theorem longer_len {ss : List St} {s : Nat} {δ : Int} : (longer ss s δ).length = ss.length := List.length_set
theorem longer_ord {ss : List St} {s : Nat} {δ : Int} (hs : s < ss.length) : ordL (longer ss s δ) = ordL ss := by
  unfold ordL
  rw [longer_W hs, longer_len]
theorem longer_good {ss : List St} {s : Nat} {δ : Int} (g : GoodD ss) (hs : s < ss.length) (h0 : 0 ≤ δ) (h6 : df ss s + δ ≤ 600) : GoodD (longer ss s δ) := by
  refine ⟨by rw [longer_len]; exact g.n1, by rw [longer_len]; exact g.n10, fun i p e => ?_⟩
  rw [longer_len]
  unfold longer at e
  rw [List.getElem?_set] at e
  by_cases c : s = i
  · subst c
    rw [if_pos rfl, if_pos hs] at e
    injection e with e
    subst e
    have z := good_at g hs
    have z1 : 1 ≤ df ss s := z.m1
    exact ⟨by show 1 ≤ df ss s + δ; omega, h6, z.lt, z.rise, z.own⟩
  · rw [if_neg c] at e
    exact g.ok i p e
theorem longer_e {ss : List St} {s : Nat} {δ : Int} (g : GoodD ss) (ho : (ordL ss).length = ss.length) (hs : s < ss.length) (h0 : 0 ≤ δ) : eD (longer ss s δ) = max (eD ss) (eD ss - (lL (Wf ss) (df ss) ss.length s - lp (Wf ss) (df ss) ss.length s) + δ) := by
  have z := stretch (d := df ss) (d' := df (longer ss s δ)) (ord_rk ho) hs h0 (fun i hi => by
    have : 1 ≤ df ss i := (good_at g hi).m1
    omega) (longer_d hs).1 (longer_d hs).2
  show eL (Wf (longer ss s δ)) (df (longer ss s δ)) (longer ss s δ).length = _
  rw [longer_W hs, longer_len, z]
  have e1 : eD ss = eL (Wf ss) (df ss) ss.length := rfl
  rw [e1]
  unfold lL
  congr 1
  omega
theorem longer_D {ss : List St} {s : Nat} {δ : Int} (hs : s < ss.length) : cut (ss.map stepD) none (some (s : Int)) ++ [PyData.tuple [.int (df ss s + δ), .tuple ((natI (Wf ss s)).map .int)]] ++ cut (ss.map stepD) (some ((s : Int) + 1)) none = (longer ss s δ).map stepD := by
  rw [cut_to, show ((s : Int) + 1) = ((s + 1 : Nat) : Int) by omega, cut_from]
  unfold longer
  rw [List.set_eq_take_append_cons_drop, if_pos hs, List.map_append, List.map_cons, List.map_take, List.map_drop, List.append_assoc]
  rfl
theorem simp_ints (ns : List Int) : Simp 3 (tupI ns) := fun x hx => by
  obtain ⟨i, _, rfl⟩ := List.mem_map.mp hx
  trivial
def C_law_case_right : Ct := fun rs Q _ => rs = [.hand L_hand] ∧ Q (.d (.bool true))
theorem l_law_case_right : ∀ rs Q X, C_law_case_right rs Q X → rs.length = 1 := by
  rintro rs Q X ⟨rfl, _⟩
  rfl
theorem p_law_case_right : ∀ rs Q X, C_law_case_right rs Q X → w_law_case_right ⟨fun _ => Q (.d .none), Q, fun _ => False, fun _ => False⟩ (startR N_law_case_right rs) X := by
  rintro rs Q X ⟨rfl, h⟩
  have hz := sizeLine_eq
  (try simp only [wIzM, wWordV, wDc, wDn, wDGet, wDIn, wDNotIn, wDPut, wRetK, wFrzK, keyOf, R.dk.injEq, R.fk.injEq, wRev, neS, wSortLL, wSetIfO, ltDD, sortedDI, wIe, isDD, isnotDD, wPar2, sumDD, eqS, reprD, wV, wC, wNil, wCons, wTup, wLst, wOp, wUn, wCall, wT, wNot, wAnd, wOr, wB, wAndV, wOrV, wNotV, wIf, wIsi, wChain, wNo, wPart, wSl, wSet, wSetO, wTg, wPnil, wPcons, wPar, wNext, wSeq, wRet, wRetO, wRetN, wIfS, wBrk, wCnt, wDrop, wFrz, wApp, wExt, wSetIx, wAugIx, wAug, wRnil, wRcons, wFn, wRaise, wWord, wRetH, wSetIxH, wCount, wIndex, wIsE, wListRg1, wListRg2, wYes, wIs, wIz, wIl, wIt, wIr1, wIr2, wSlS, wPop, wAppPop, R.wk, R.st, R.ar, R.bl, R.no, R.sq, R.slot, setsR, startR, List.map_cons, List.map_nil, List.cons_append, List.nil_append, List.length_cons, List.length_nil, List.replicate, List.getElem?_cons_zero, List.getElem?_cons_succ, Option.some.injEq, exists_eq_left', exists_eq_left, R.d.injEq, R.own.injEq, R.fr.injEq, List.set_cons_zero, List.set_cons_succ, addD, subD, mulDD, fdivD, modD, ltD, leD, gtD, geD, eqD, neD, isND, isnotND, inDD, notInDD, ixD, negD, lenD, absD, intD, min2D, max2D, listD, tupleD, slD, Nat.reduceAdd, Nat.reduceSub, Nat.add_zero, Nat.zero_add, true_and, and_true, ite_true, ite_false, if_true, if_false, Bool.false_eq_true, reduceIte, Option.some_inj, Bool.true_eq_false, tgW, tgWs, wipe3, List.set_nil, w_law_case_right])
  refine any_some (by decide) (by decide) fun x hx => ?_
  have hx2 : ∃ t : Int, x = .int t ∧ 1 ≤ t ∧ t ≤ 600 := by
    simp only [List.mem_cons, List.not_mem_nil, or_false] at hx
    rcases hx with rfl | rfl | rfl
    · exact ⟨3, rfl, by omega, by omega⟩
    · exact ⟨20, rfl, by omega, by omega⟩
    · exact ⟨500, rfl, by omega, by omega⟩
  obtain ⟨t, rfl, t0, t1⟩ := hx2
  (try simp only [wIzM, wWordV, wDc, wDn, wDGet, wDIn, wDNotIn, wDPut, wRetK, wFrzK, keyOf, R.dk.injEq, R.fk.injEq, wRev, neS, wSortLL, wSetIfO, ltDD, sortedDI, wIe, isDD, isnotDD, wPar2, sumDD, eqS, reprD, wV, wC, wNil, wCons, wTup, wLst, wOp, wUn, wCall, wT, wNot, wAnd, wOr, wB, wAndV, wOrV, wNotV, wIf, wIsi, wChain, wNo, wPart, wSl, wSet, wSetO, wTg, wPnil, wPcons, wPar, wNext, wSeq, wRet, wRetO, wRetN, wIfS, wBrk, wCnt, wDrop, wFrz, wApp, wExt, wSetIx, wAugIx, wAug, wRnil, wRcons, wFn, wRaise, wWord, wRetH, wSetIxH, wCount, wIndex, wIsE, wListRg1, wListRg2, wYes, wIs, wIz, wIl, wIt, wIr1, wIr2, wSlS, wPop, wAppPop, R.wk, R.st, R.ar, R.bl, R.no, R.sq, R.slot, setsR, startR, List.map_cons, List.map_nil, List.cons_append, List.nil_append, List.length_cons, List.length_nil, List.replicate, List.getElem?_cons_zero, List.getElem?_cons_succ, Option.some.injEq, exists_eq_left', exists_eq_left, R.d.injEq, R.own.injEq, R.fr.injEq, List.set_cons_zero, List.set_cons_succ, addD, subD, mulDD, fdivD, modD, ltD, leD, gtD, geD, eqD, neD, isND, isnotND, inDD, notInDD, ixD, negD, lenD, absD, intD, min2D, max2D, listD, tupleD, slD, Nat.reduceAdd, Nat.reduceSub, Nat.add_zero, Nat.zero_add, true_and, and_true, ite_true, ite_false, if_true, if_false, Bool.false_eq_true, reduceIte, Option.some_inj, Bool.true_eq_false, tgW, tgWs, wipe3, List.set_nil, C_law_dish])
  refine ⟨t, rfl, t0, t1, fun ss g n8 ho => ?_⟩
  have n1 := g.n1
  (try simp only [wIzM, wWordV, wDc, wDn, wDGet, wDIn, wDNotIn, wDPut, wRetK, wFrzK, keyOf, R.dk.injEq, R.fk.injEq, wRev, neS, wSortLL, wSetIfO, ltDD, sortedDI, wIe, isDD, isnotDD, wPar2, sumDD, eqS, reprD, wV, wC, wNil, wCons, wTup, wLst, wOp, wUn, wCall, wT, wNot, wAnd, wOr, wB, wAndV, wOrV, wNotV, wIf, wIsi, wChain, wNo, wPart, wSl, wSet, wSetO, wTg, wPnil, wPcons, wPar, wNext, wSeq, wRet, wRetO, wRetN, wIfS, wBrk, wCnt, wDrop, wFrz, wApp, wExt, wSetIx, wAugIx, wAug, wRnil, wRcons, wFn, wRaise, wWord, wRetH, wSetIxH, wCount, wIndex, wIsE, wListRg1, wListRg2, wYes, wIs, wIz, wIl, wIt, wIr1, wIr2, wSlS, wPop, wAppPop, R.wk, R.st, R.ar, R.bl, R.no, R.sq, R.slot, setsR, startR, List.map_cons, List.map_nil, List.cons_append, List.nil_append, List.length_cons, List.length_nil, List.replicate, List.getElem?_cons_zero, List.getElem?_cons_succ, Option.some.injEq, exists_eq_left', exists_eq_left, R.d.injEq, R.own.injEq, R.fr.injEq, List.set_cons_zero, List.set_cons_succ, addD, subD, mulDD, fdivD, modD, ltD, leD, gtD, geD, eqD, neD, isND, isnotND, inDD, notInDD, ixD, negD, lenD, absD, intD, min2D, max2D, listD, tupleD, slD, Nat.reduceAdd, Nat.reduceSub, Nat.add_zero, Nat.zero_add, true_and, and_true, ite_true, ite_false, if_true, if_false, Bool.false_eq_true, reduceIte, Option.some_inj, Bool.true_eq_false, tgW, tgWs, wipe3, List.set_nil, w_law_case_right_1, C_law_begins])
  refine ⟨ss, rfl, g, ho, ?_⟩
  (try simp only [wIzM, wWordV, wDc, wDn, wDGet, wDIn, wDNotIn, wDPut, wRetK, wFrzK, keyOf, R.dk.injEq, R.fk.injEq, wRev, neS, wSortLL, wSetIfO, ltDD, sortedDI, wIe, isDD, isnotDD, wPar2, sumDD, eqS, reprD, wV, wC, wNil, wCons, wTup, wLst, wOp, wUn, wCall, wT, wNot, wAnd, wOr, wB, wAndV, wOrV, wNotV, wIf, wIsi, wChain, wNo, wPart, wSl, wSet, wSetO, wTg, wPnil, wPcons, wPar, wNext, wSeq, wRet, wRetO, wRetN, wIfS, wBrk, wCnt, wDrop, wFrz, wApp, wExt, wSetIx, wAugIx, wAug, wRnil, wRcons, wFn, wRaise, wWord, wRetH, wSetIxH, wCount, wIndex, wIsE, wListRg1, wListRg2, wYes, wIs, wIz, wIl, wIt, wIr1, wIr2, wSlS, wPop, wAppPop, R.wk, R.st, R.ar, R.bl, R.no, R.sq, R.slot, setsR, startR, List.map_cons, List.map_nil, List.cons_append, List.nil_append, List.length_cons, List.length_nil, List.replicate, List.getElem?_cons_zero, List.getElem?_cons_succ, Option.some.injEq, exists_eq_left', exists_eq_left, R.d.injEq, R.own.injEq, R.fr.injEq, List.set_cons_zero, List.set_cons_succ, addD, subD, mulDD, fdivD, modD, ltD, leD, gtD, geD, eqD, neD, isND, isnotND, inDD, notInDD, ixD, negD, lenD, absD, intD, min2D, max2D, listD, tupleD, slD, Nat.reduceAdd, Nat.reduceSub, Nat.add_zero, Nat.zero_add, true_and, and_true, ite_true, ite_false, if_true, if_false, Bool.false_eq_true, reduceIte, Option.some_inj, Bool.true_eq_false, tgW, tgWs, wipe3, List.set_nil, C_law_latest])
  refine ⟨ss, rfl, g, ho, ?_⟩
  (try simp only [wIzM, wWordV, wDc, wDn, wDGet, wDIn, wDNotIn, wDPut, wRetK, wFrzK, keyOf, R.dk.injEq, R.fk.injEq, wRev, neS, wSortLL, wSetIfO, ltDD, sortedDI, wIe, isDD, isnotDD, wPar2, sumDD, eqS, reprD, wV, wC, wNil, wCons, wTup, wLst, wOp, wUn, wCall, wT, wNot, wAnd, wOr, wB, wAndV, wOrV, wNotV, wIf, wIsi, wChain, wNo, wPart, wSl, wSet, wSetO, wTg, wPnil, wPcons, wPar, wNext, wSeq, wRet, wRetO, wRetN, wIfS, wBrk, wCnt, wDrop, wFrz, wApp, wExt, wSetIx, wAugIx, wAug, wRnil, wRcons, wFn, wRaise, wWord, wRetH, wSetIxH, wCount, wIndex, wIsE, wListRg1, wListRg2, wYes, wIs, wIz, wIl, wIt, wIr1, wIr2, wSlS, wPop, wAppPop, R.wk, R.st, R.ar, R.bl, R.no, R.sq, R.slot, setsR, startR, List.map_cons, List.map_nil, List.cons_append, List.nil_append, List.length_cons, List.length_nil, List.replicate, List.getElem?_cons_zero, List.getElem?_cons_succ, Option.some.injEq, exists_eq_left', exists_eq_left, R.d.injEq, R.own.injEq, R.fr.injEq, List.set_cons_zero, List.set_cons_succ, addD, subD, mulDD, fdivD, modD, ltD, leD, gtD, geD, eqD, neD, isND, isnotND, inDD, notInDD, ixD, negD, lenD, absD, intD, min2D, max2D, listD, tupleD, slD, Nat.reduceAdd, Nat.reduceSub, Nat.add_zero, Nat.zero_add, true_and, and_true, ite_true, ite_false, if_true, if_false, Bool.false_eq_true, reduceIte, Option.some_inj, Bool.true_eq_false, tgW, tgWs, wipe3, List.set_nil, w_law_case_right_2, C_law_end])
  refine ⟨ss, rfl, g, ho, ?_⟩
  have ez : zipD ((bL ss).map .int) ((lLs ss).map .int) = (List.range ss.length).map fun i => .tuple [.int (lp (Wf ss) (df ss) ss.length i), .int (lL (Wf ss) (df ss) ss.length i)] := by
    rw [lLs, bL, map_int, map_int, zip_rr]
  (try simp only [wIzM, wWordV, wDc, wDn, wDGet, wDIn, wDNotIn, wDPut, wRetK, wFrzK, keyOf, R.dk.injEq, R.fk.injEq, wRev, neS, wSortLL, wSetIfO, ltDD, sortedDI, wIe, isDD, isnotDD, wPar2, sumDD, eqS, reprD, wV, wC, wNil, wCons, wTup, wLst, wOp, wUn, wCall, wT, wNot, wAnd, wOr, wB, wAndV, wOrV, wNotV, wIf, wIsi, wChain, wNo, wPart, wSl, wSet, wSetO, wTg, wPnil, wPcons, wPar, wNext, wSeq, wRet, wRetO, wRetN, wIfS, wBrk, wCnt, wDrop, wFrz, wApp, wExt, wSetIx, wAugIx, wAug, wRnil, wRcons, wFn, wRaise, wWord, wRetH, wSetIxH, wCount, wIndex, wIsE, wListRg1, wListRg2, wYes, wIs, wIz, wIl, wIt, wIr1, wIr2, wSlS, wPop, wAppPop, R.wk, R.st, R.ar, R.bl, R.no, R.sq, R.slot, setsR, startR, List.map_cons, List.map_nil, List.cons_append, List.nil_append, List.length_cons, List.length_nil, List.replicate, List.getElem?_cons_zero, List.getElem?_cons_succ, Option.some.injEq, exists_eq_left', exists_eq_left, R.d.injEq, R.own.injEq, R.fr.injEq, List.set_cons_zero, List.set_cons_succ, addD, subD, mulDD, fdivD, modD, ltD, leD, gtD, geD, eqD, neD, isND, isnotND, inDD, notInDD, ixD, negD, lenD, absD, intD, min2D, max2D, listD, tupleD, slD, Nat.reduceAdd, Nat.reduceSub, Nat.add_zero, Nat.zero_add, true_and, and_true, ite_true, ite_false, if_true, if_false, Bool.false_eq_true, reduceIte, Option.some_inj, Bool.true_eq_false, tgW, tgWs, wipe3, List.set_nil, w_law_case_right_3, wLc, ez])
  refine lc_mapm (α := Nat) (fun i => .tuple [.int (lp (Wf ss) (df ss) ss.length i), .int (lL (Wf ss) (df ss) ss.length i)]) (fun i => .int (lL (Wf ss) (df ss) ss.length i - lp (Wf ss) (df ss) ss.length i)) _ (fun a b e => ?_) (fun i hi k hk => ?_) ?_
  · obtain ⟨e1, e2⟩ := pair_inj e
    show PyData.int (lL (Wf ss) (df ss) ss.length a - lp (Wf ss) (df ss) ss.length a) = _
    rw [e1, e2]
  · (try simp only [wIzM, wWordV, wDc, wDn, wDGet, wDIn, wDNotIn, wDPut, wRetK, wFrzK, keyOf, R.dk.injEq, R.fk.injEq, wRev, neS, wSortLL, wSetIfO, ltDD, sortedDI, wIe, isDD, isnotDD, wPar2, sumDD, eqS, reprD, wV, wC, wNil, wCons, wTup, wLst, wOp, wUn, wCall, wT, wNot, wAnd, wOr, wB, wAndV, wOrV, wNotV, wIf, wIsi, wChain, wNo, wPart, wSl, wSet, wSetO, wTg, wPnil, wPcons, wPar, wNext, wSeq, wRet, wRetO, wRetN, wIfS, wBrk, wCnt, wDrop, wFrz, wApp, wExt, wSetIx, wAugIx, wAug, wRnil, wRcons, wFn, wRaise, wWord, wRetH, wSetIxH, wCount, wIndex, wIsE, wListRg1, wListRg2, wYes, wIs, wIz, wIl, wIt, wIr1, wIr2, wSlS, wPop, wAppPop, R.wk, R.st, R.ar, R.bl, R.no, R.sq, R.slot, setsR, startR, List.map_cons, List.map_nil, List.cons_append, List.nil_append, List.length_cons, List.length_nil, List.replicate, List.getElem?_cons_zero, List.getElem?_cons_succ, Option.some.injEq, exists_eq_left', exists_eq_left, R.d.injEq, R.own.injEq, R.fr.injEq, List.set_cons_zero, List.set_cons_succ, addD, subD, mulDD, fdivD, modD, ltD, leD, gtD, geD, eqD, neD, isND, isnotND, inDD, notInDD, ixD, negD, lenD, absD, intD, min2D, max2D, listD, tupleD, slD, Nat.reduceAdd, Nat.reduceSub, Nat.add_zero, Nat.zero_add, true_and, and_true, ite_true, ite_false, if_true, if_false, Bool.false_eq_true, reduceIte, Option.some_inj, Bool.true_eq_false, tgW, tgWs, wipe3, List.set_nil])
    exact hk
  have es : (List.range ss.length).map (fun i => PyData.int (lL (Wf ss) (df ss) ss.length i - lp (Wf ss) (df ss) ss.length i)) = (sL ss).map .int := by
    rw [sL, map_int]
  rw [es]
  (try simp only [wIzM, wWordV, wDc, wDn, wDGet, wDIn, wDNotIn, wDPut, wRetK, wFrzK, keyOf, R.dk.injEq, R.fk.injEq, wRev, neS, wSortLL, wSetIfO, ltDD, sortedDI, wIe, isDD, isnotDD, wPar2, sumDD, eqS, reprD, wV, wC, wNil, wCons, wTup, wLst, wOp, wUn, wCall, wT, wNot, wAnd, wOr, wB, wAndV, wOrV, wNotV, wIf, wIsi, wChain, wNo, wPart, wSl, wSet, wSetO, wTg, wPnil, wPcons, wPar, wNext, wSeq, wRet, wRetO, wRetN, wIfS, wBrk, wCnt, wDrop, wFrz, wApp, wExt, wSetIx, wAugIx, wAug, wRnil, wRcons, wFn, wRaise, wWord, wRetH, wSetIxH, wCount, wIndex, wIsE, wListRg1, wListRg2, wYes, wIs, wIz, wIl, wIt, wIr1, wIr2, wSlS, wPop, wAppPop, R.wk, R.st, R.ar, R.bl, R.no, R.sq, R.slot, setsR, startR, List.map_cons, List.map_nil, List.cons_append, List.nil_append, List.length_cons, List.length_nil, List.replicate, List.getElem?_cons_zero, List.getElem?_cons_succ, Option.some.injEq, exists_eq_left', exists_eq_left, R.d.injEq, R.own.injEq, R.fr.injEq, List.set_cons_zero, List.set_cons_succ, addD, subD, mulDD, fdivD, modD, ltD, leD, gtD, geD, eqD, neD, isND, isnotND, inDD, notInDD, ixD, negD, lenD, absD, intD, min2D, max2D, listD, tupleD, slD, Nat.reduceAdd, Nat.reduceSub, Nat.add_zero, Nat.zero_add, true_and, and_true, ite_true, ite_false, if_true, if_false, Bool.false_eq_true, reduceIte, Option.some_inj, Bool.true_eq_false, tgW, tgWs, wipe3, List.set_nil, w_law_case_right_4])
  refine begins_ok g ho ?_
  (try simp only [wIzM, wWordV, wDc, wDn, wDGet, wDIn, wDNotIn, wDPut, wRetK, wFrzK, keyOf, R.dk.injEq, R.fk.injEq, wRev, neS, wSortLL, wSetIfO, ltDD, sortedDI, wIe, isDD, isnotDD, wPar2, sumDD, eqS, reprD, wV, wC, wNil, wCons, wTup, wLst, wOp, wUn, wCall, wT, wNot, wAnd, wOr, wB, wAndV, wOrV, wNotV, wIf, wIsi, wChain, wNo, wPart, wSl, wSet, wSetO, wTg, wPnil, wPcons, wPar, wNext, wSeq, wRet, wRetO, wRetN, wIfS, wBrk, wCnt, wDrop, wFrz, wApp, wExt, wSetIx, wAugIx, wAug, wRnil, wRcons, wFn, wRaise, wWord, wRetH, wSetIxH, wCount, wIndex, wIsE, wListRg1, wListRg2, wYes, wIs, wIz, wIl, wIt, wIr1, wIr2, wSlS, wPop, wAppPop, R.wk, R.st, R.ar, R.bl, R.no, R.sq, R.slot, setsR, startR, List.map_cons, List.map_nil, List.cons_append, List.nil_append, List.length_cons, List.length_nil, List.replicate, List.getElem?_cons_zero, List.getElem?_cons_succ, Option.some.injEq, exists_eq_left', exists_eq_left, R.d.injEq, R.own.injEq, R.fr.injEq, List.set_cons_zero, List.set_cons_succ, addD, subD, mulDD, fdivD, modD, ltD, leD, gtD, geD, eqD, neD, isND, isnotND, inDD, notInDD, ixD, negD, lenD, absD, intD, min2D, max2D, listD, tupleD, slD, Nat.reduceAdd, Nat.reduceSub, Nat.add_zero, Nat.zero_add, true_and, and_true, ite_true, ite_false, if_true, if_false, Bool.false_eq_true, reduceIte, Option.some_inj, Bool.true_eq_false, tgW, tgWs, wipe3, List.set_nil])
  refine least_ok g ho ?_
  (try simp only [wIzM, wWordV, wDc, wDn, wDGet, wDIn, wDNotIn, wDPut, wRetK, wFrzK, keyOf, R.dk.injEq, R.fk.injEq, wRev, neS, wSortLL, wSetIfO, ltDD, sortedDI, wIe, isDD, isnotDD, wPar2, sumDD, eqS, reprD, wV, wC, wNil, wCons, wTup, wLst, wOp, wUn, wCall, wT, wNot, wAnd, wOr, wB, wAndV, wOrV, wNotV, wIf, wIsi, wChain, wNo, wPart, wSl, wSet, wSetO, wTg, wPnil, wPcons, wPar, wNext, wSeq, wRet, wRetO, wRetN, wIfS, wBrk, wCnt, wDrop, wFrz, wApp, wExt, wSetIx, wAugIx, wAug, wRnil, wRcons, wFn, wRaise, wWord, wRetH, wSetIxH, wCount, wIndex, wIsE, wListRg1, wListRg2, wYes, wIs, wIz, wIl, wIt, wIr1, wIr2, wSlS, wPop, wAppPop, R.wk, R.st, R.ar, R.bl, R.no, R.sq, R.slot, setsR, startR, List.map_cons, List.map_nil, List.cons_append, List.nil_append, List.length_cons, List.length_nil, List.replicate, List.getElem?_cons_zero, List.getElem?_cons_succ, Option.some.injEq, exists_eq_left', exists_eq_left, R.d.injEq, R.own.injEq, R.fr.injEq, List.set_cons_zero, List.set_cons_succ, addD, subD, mulDD, fdivD, modD, ltD, leD, gtD, geD, eqD, neD, isND, isnotND, inDD, notInDD, ixD, negD, lenD, absD, intD, min2D, max2D, listD, tupleD, slD, Nat.reduceAdd, Nat.reduceSub, Nat.add_zero, Nat.zero_add, true_and, and_true, ite_true, ite_false, if_true, if_false, Bool.false_eq_true, reduceIte, Option.some_inj, Bool.true_eq_false, tgW, tgWs, wipe3, List.set_nil])
  refine latest_ok g ho ?_
  (try simp only [wIzM, wWordV, wDc, wDn, wDGet, wDIn, wDNotIn, wDPut, wRetK, wFrzK, keyOf, R.dk.injEq, R.fk.injEq, wRev, neS, wSortLL, wSetIfO, ltDD, sortedDI, wIe, isDD, isnotDD, wPar2, sumDD, eqS, reprD, wV, wC, wNil, wCons, wTup, wLst, wOp, wUn, wCall, wT, wNot, wAnd, wOr, wB, wAndV, wOrV, wNotV, wIf, wIsi, wChain, wNo, wPart, wSl, wSet, wSetO, wTg, wPnil, wPcons, wPar, wNext, wSeq, wRet, wRetO, wRetN, wIfS, wBrk, wCnt, wDrop, wFrz, wApp, wExt, wSetIx, wAugIx, wAug, wRnil, wRcons, wFn, wRaise, wWord, wRetH, wSetIxH, wCount, wIndex, wIsE, wListRg1, wListRg2, wYes, wIs, wIz, wIl, wIt, wIr1, wIr2, wSlS, wPop, wAppPop, R.wk, R.st, R.ar, R.bl, R.no, R.sq, R.slot, setsR, startR, List.map_cons, List.map_nil, List.cons_append, List.nil_append, List.length_cons, List.length_nil, List.replicate, List.getElem?_cons_zero, List.getElem?_cons_succ, Option.some.injEq, exists_eq_left', exists_eq_left, R.d.injEq, R.own.injEq, R.fr.injEq, List.set_cons_zero, List.set_cons_succ, addD, subD, mulDD, fdivD, modD, ltD, leD, gtD, geD, eqD, neD, isND, isnotND, inDD, notInDD, ixD, negD, lenD, absD, intD, min2D, max2D, listD, tupleD, slD, Nat.reduceAdd, Nat.reduceSub, Nat.add_zero, Nat.zero_add, true_and, and_true, ite_true, ite_false, if_true, if_false, Bool.false_eq_true, reduceIte, Option.some_inj, Bool.true_eq_false, tgW, tgWs, wipe3, List.set_nil])
  refine slack_ok g ho ?_
  (try simp only [wIzM, wWordV, wDc, wDn, wDGet, wDIn, wDNotIn, wDPut, wRetK, wFrzK, keyOf, R.dk.injEq, R.fk.injEq, wRev, neS, wSortLL, wSetIfO, ltDD, sortedDI, wIe, isDD, isnotDD, wPar2, sumDD, eqS, reprD, wV, wC, wNil, wCons, wTup, wLst, wOp, wUn, wCall, wT, wNot, wAnd, wOr, wB, wAndV, wOrV, wNotV, wIf, wIsi, wChain, wNo, wPart, wSl, wSet, wSetO, wTg, wPnil, wPcons, wPar, wNext, wSeq, wRet, wRetO, wRetN, wIfS, wBrk, wCnt, wDrop, wFrz, wApp, wExt, wSetIx, wAugIx, wAug, wRnil, wRcons, wFn, wRaise, wWord, wRetH, wSetIxH, wCount, wIndex, wIsE, wListRg1, wListRg2, wYes, wIs, wIz, wIl, wIt, wIr1, wIr2, wSlS, wPop, wAppPop, R.wk, R.st, R.ar, R.bl, R.no, R.sq, R.slot, setsR, startR, List.map_cons, List.map_nil, List.cons_append, List.nil_append, List.length_cons, List.length_nil, List.replicate, List.getElem?_cons_zero, List.getElem?_cons_succ, Option.some.injEq, exists_eq_left', exists_eq_left, R.d.injEq, R.own.injEq, R.fr.injEq, List.set_cons_zero, List.set_cons_succ, addD, subD, mulDD, fdivD, modD, ltD, leD, gtD, geD, eqD, neD, isND, isnotND, inDD, notInDD, ixD, negD, lenD, absD, intD, min2D, max2D, listD, tupleD, slD, Nat.reduceAdd, Nat.reduceSub, Nat.add_zero, Nat.zero_add, true_and, and_true, ite_true, ite_false, if_true, if_false, Bool.false_eq_true, reduceIte, Option.some_inj, Bool.true_eq_false, tgW, tgWs, wipe3, List.set_nil, w_law_case_right_5])
  refine ⟨_, rfl, fun x hx => ?_, ?_⟩
  · simp only [List.mem_cons, List.not_mem_nil, or_false] at hx
    rcases hx with rfl | rfl | rfl | rfl
    · exact simp_ints _
    · trivial
    · exact simp_ints _
    · exact simp_ints _
  (try simp only [wIzM, wWordV, wDc, wDn, wDGet, wDIn, wDNotIn, wDPut, wRetK, wFrzK, keyOf, R.dk.injEq, R.fk.injEq, wRev, neS, wSortLL, wSetIfO, ltDD, sortedDI, wIe, isDD, isnotDD, wPar2, sumDD, eqS, reprD, wV, wC, wNil, wCons, wTup, wLst, wOp, wUn, wCall, wT, wNot, wAnd, wOr, wB, wAndV, wOrV, wNotV, wIf, wIsi, wChain, wNo, wPart, wSl, wSet, wSetO, wTg, wPnil, wPcons, wPar, wNext, wSeq, wRet, wRetO, wRetN, wIfS, wBrk, wCnt, wDrop, wFrz, wApp, wExt, wSetIx, wAugIx, wAug, wRnil, wRcons, wFn, wRaise, wWord, wRetH, wSetIxH, wCount, wIndex, wIsE, wListRg1, wListRg2, wYes, wIs, wIz, wIl, wIt, wIr1, wIr2, wSlS, wPop, wAppPop, R.wk, R.st, R.ar, R.bl, R.no, R.sq, R.slot, setsR, startR, List.map_cons, List.map_nil, List.cons_append, List.nil_append, List.length_cons, List.length_nil, List.replicate, List.getElem?_cons_zero, List.getElem?_cons_succ, Option.some.injEq, exists_eq_left', exists_eq_left, R.d.injEq, R.own.injEq, R.fr.injEq, List.set_cons_zero, List.set_cons_succ, addD, subD, mulDD, fdivD, modD, ltD, leD, gtD, geD, eqD, neD, isND, isnotND, inDD, notInDD, ixD, negD, lenD, absD, intD, min2D, max2D, listD, tupleD, slD, Nat.reduceAdd, Nat.reduceSub, Nat.add_zero, Nat.zero_add, true_and, and_true, ite_true, ite_false, if_true, if_false, Bool.false_eq_true, reduceIte, Option.some_inj, Bool.true_eq_false, tgW, tgWs, wipe3, List.set_nil, Bool.not_true])
  refine min_zero g ho ?_
  (try simp only [wIzM, wWordV, wDc, wDn, wDGet, wDIn, wDNotIn, wDPut, wRetK, wFrzK, keyOf, R.dk.injEq, R.fk.injEq, wRev, neS, wSortLL, wSetIfO, ltDD, sortedDI, wIe, isDD, isnotDD, wPar2, sumDD, eqS, reprD, wV, wC, wNil, wCons, wTup, wLst, wOp, wUn, wCall, wT, wNot, wAnd, wOr, wB, wAndV, wOrV, wNotV, wIf, wIsi, wChain, wNo, wPart, wSl, wSet, wSetO, wTg, wPnil, wPcons, wPar, wNext, wSeq, wRet, wRetO, wRetN, wIfS, wBrk, wCnt, wDrop, wFrz, wApp, wExt, wSetIx, wAugIx, wAug, wRnil, wRcons, wFn, wRaise, wWord, wRetH, wSetIxH, wCount, wIndex, wIsE, wListRg1, wListRg2, wYes, wIs, wIz, wIl, wIt, wIr1, wIr2, wSlS, wPop, wAppPop, R.wk, R.st, R.ar, R.bl, R.no, R.sq, R.slot, setsR, startR, List.map_cons, List.map_nil, List.cons_append, List.nil_append, List.length_cons, List.length_nil, List.replicate, List.getElem?_cons_zero, List.getElem?_cons_succ, Option.some.injEq, exists_eq_left', exists_eq_left, R.d.injEq, R.own.injEq, R.fr.injEq, List.set_cons_zero, List.set_cons_succ, addD, subD, mulDD, fdivD, modD, ltD, leD, gtD, geD, eqD, neD, isND, isnotND, inDD, notInDD, ixD, negD, lenD, absD, intD, min2D, max2D, listD, tupleD, slD, Nat.reduceAdd, Nat.reduceSub, Nat.add_zero, Nat.zero_add, true_and, and_true, ite_true, ite_false, if_true, if_false, Bool.false_eq_true, reduceIte, Option.some_inj, Bool.true_eq_false, tgW, tgWs, wipe3, List.set_nil])
  refine ⟨rfl, rfl, ?_⟩
  rw [eqv_ii, decide_eq_true rfl]
  (try simp only [wIzM, wWordV, wDc, wDn, wDGet, wDIn, wDNotIn, wDPut, wRetK, wFrzK, keyOf, R.dk.injEq, R.fk.injEq, wRev, neS, wSortLL, wSetIfO, ltDD, sortedDI, wIe, isDD, isnotDD, wPar2, sumDD, eqS, reprD, wV, wC, wNil, wCons, wTup, wLst, wOp, wUn, wCall, wT, wNot, wAnd, wOr, wB, wAndV, wOrV, wNotV, wIf, wIsi, wChain, wNo, wPart, wSl, wSet, wSetO, wTg, wPnil, wPcons, wPar, wNext, wSeq, wRet, wRetO, wRetN, wIfS, wBrk, wCnt, wDrop, wFrz, wApp, wExt, wSetIx, wAugIx, wAug, wRnil, wRcons, wFn, wRaise, wWord, wRetH, wSetIxH, wCount, wIndex, wIsE, wListRg1, wListRg2, wYes, wIs, wIz, wIl, wIt, wIr1, wIr2, wSlS, wPop, wAppPop, R.wk, R.st, R.ar, R.bl, R.no, R.sq, R.slot, setsR, startR, List.map_cons, List.map_nil, List.cons_append, List.nil_append, List.length_cons, List.length_nil, List.replicate, List.getElem?_cons_zero, List.getElem?_cons_succ, Option.some.injEq, exists_eq_left', exists_eq_left, R.d.injEq, R.own.injEq, R.fr.injEq, List.set_cons_zero, List.set_cons_succ, addD, subD, mulDD, fdivD, modD, ltD, leD, gtD, geD, eqD, neD, isND, isnotND, inDD, notInDD, ixD, negD, lenD, absD, intD, min2D, max2D, listD, tupleD, slD, Nat.reduceAdd, Nat.reduceSub, Nat.add_zero, Nat.zero_add, true_and, and_true, ite_true, ite_false, if_true, if_false, Bool.false_eq_true, reduceIte, Option.some_inj, Bool.true_eq_false, tgW, tgWs, wipe3, List.set_nil, Bool.not_true, w_law_case_right_6, C_law_draw, C_draw, List.length_map])
  refine ⟨ss.length, rfl, by omega, by omega, fun a a0 a1 => ?_⟩
  obtain ⟨s, rfl⟩ : ∃ s : Nat, a = s := ⟨a.toNat, by omega⟩
  have hs : s < ss.length := by omega
  have hv : s < (sL ss).length := by simp [sL]; omega
  have gs : gv (sL ss) s = lL (Wf ss) (df ss) ss.length s - lp (Wf ss) (df ss) ss.length s := by
    unfold sL
    exact gv_range (g := fun i => lL (Wf ss) (df ss) ss.length i - lp (Wf ss) (df ss) ss.length i) hs
  have nn := slack_nn ho hs
  (try simp only [wIzM, wWordV, wDc, wDn, wDGet, wDIn, wDNotIn, wDPut, wRetK, wFrzK, keyOf, R.dk.injEq, R.fk.injEq, wRev, neS, wSortLL, wSetIfO, ltDD, sortedDI, wIe, isDD, isnotDD, wPar2, sumDD, eqS, reprD, wV, wC, wNil, wCons, wTup, wLst, wOp, wUn, wCall, wT, wNot, wAnd, wOr, wB, wAndV, wOrV, wNotV, wIf, wIsi, wChain, wNo, wPart, wSl, wSet, wSetO, wTg, wPnil, wPcons, wPar, wNext, wSeq, wRet, wRetO, wRetN, wIfS, wBrk, wCnt, wDrop, wFrz, wApp, wExt, wSetIx, wAugIx, wAug, wRnil, wRcons, wFn, wRaise, wWord, wRetH, wSetIxH, wCount, wIndex, wIsE, wListRg1, wListRg2, wYes, wIs, wIz, wIl, wIt, wIr1, wIr2, wSlS, wPop, wAppPop, R.wk, R.st, R.ar, R.bl, R.no, R.sq, R.slot, setsR, startR, List.map_cons, List.map_nil, List.cons_append, List.nil_append, List.length_cons, List.length_nil, List.replicate, List.getElem?_cons_zero, List.getElem?_cons_succ, Option.some.injEq, exists_eq_left', exists_eq_left, R.d.injEq, R.own.injEq, R.fr.injEq, List.set_cons_zero, List.set_cons_succ, addD, subD, mulDD, fdivD, modD, ltD, leD, gtD, geD, eqD, neD, isND, isnotND, inDD, notInDD, ixD, negD, lenD, absD, intD, min2D, max2D, listD, tupleD, slD, Nat.reduceAdd, Nat.reduceSub, Nat.add_zero, Nat.zero_add, true_and, and_true, ite_true, ite_false, if_true, if_false, Bool.false_eq_true, reduceIte, Option.some_inj, Bool.true_eq_false, tgW, tgWs, wipe3, List.set_nil, w_law_case_right_7, at_step hs, w_law_case_right_8, at_gv hv, gs])
  generalize hδ : lL (Wf ss) (df ss) ss.length s - lp (Wf ss) (df ss) ss.length s = δ at nn
  by_cases c : 599 < df ss s + δ
  · rw [decide_eq_true c]
    (try simp only [wIzM, wWordV, wDc, wDn, wDGet, wDIn, wDNotIn, wDPut, wRetK, wFrzK, keyOf, R.dk.injEq, R.fk.injEq, wRev, neS, wSortLL, wSetIfO, ltDD, sortedDI, wIe, isDD, isnotDD, wPar2, sumDD, eqS, reprD, wV, wC, wNil, wCons, wTup, wLst, wOp, wUn, wCall, wT, wNot, wAnd, wOr, wB, wAndV, wOrV, wNotV, wIf, wIsi, wChain, wNo, wPart, wSl, wSet, wSetO, wTg, wPnil, wPcons, wPar, wNext, wSeq, wRet, wRetO, wRetN, wIfS, wBrk, wCnt, wDrop, wFrz, wApp, wExt, wSetIx, wAugIx, wAug, wRnil, wRcons, wFn, wRaise, wWord, wRetH, wSetIxH, wCount, wIndex, wIsE, wListRg1, wListRg2, wYes, wIs, wIz, wIl, wIt, wIr1, wIr2, wSlS, wPop, wAppPop, R.wk, R.st, R.ar, R.bl, R.no, R.sq, R.slot, setsR, startR, List.map_cons, List.map_nil, List.cons_append, List.nil_append, List.length_cons, List.length_nil, List.replicate, List.getElem?_cons_zero, List.getElem?_cons_succ, Option.some.injEq, exists_eq_left', exists_eq_left, R.d.injEq, R.own.injEq, R.fr.injEq, List.set_cons_zero, List.set_cons_succ, addD, subD, mulDD, fdivD, modD, ltD, leD, gtD, geD, eqD, neD, isND, isnotND, inDD, notInDD, ixD, negD, lenD, absD, intD, min2D, max2D, listD, tupleD, slD, Nat.reduceAdd, Nat.reduceSub, Nat.add_zero, Nat.zero_add, true_and, and_true, ite_true, ite_false, if_true, if_false, Bool.false_eq_true, reduceIte, Option.some_inj, Bool.true_eq_false, tgW, tgWs, wipe3, List.set_nil])
    exact h
  · rw [decide_eq_false c]
    have g1 := longer_good (δ := δ) g hs nn (by omega)
    have g2 := longer_good (δ := δ + 1) g hs (by omega) (by omega)
    have o1 : (ordL (longer ss s δ)).length = (longer ss s δ).length := by rw [longer_ord hs, longer_len, ho]
    have o2 : (ordL (longer ss s (δ + 1))).length = (longer ss s (δ + 1)).length := by rw [longer_ord hs, longer_len, ho]
    have e1 := longer_e (δ := δ) g ho hs nn
    have e2 := longer_e (δ := δ + 1) g ho hs (by omega)
    rw [hδ] at e1 e2
    have D1 := longer_D (δ := δ) hs
    have D2 := longer_D (δ := δ + 1) hs
    have ea : df ss s + δ + 1 = df ss s + (δ + 1) := by omega
    (try simp only [wIzM, wWordV, wDc, wDn, wDGet, wDIn, wDNotIn, wDPut, wRetK, wFrzK, keyOf, R.dk.injEq, R.fk.injEq, wRev, neS, wSortLL, wSetIfO, ltDD, sortedDI, wIe, isDD, isnotDD, wPar2, sumDD, eqS, reprD, wV, wC, wNil, wCons, wTup, wLst, wOp, wUn, wCall, wT, wNot, wAnd, wOr, wB, wAndV, wOrV, wNotV, wIf, wIsi, wChain, wNo, wPart, wSl, wSet, wSetO, wTg, wPnil, wPcons, wPar, wNext, wSeq, wRet, wRetO, wRetN, wIfS, wBrk, wCnt, wDrop, wFrz, wApp, wExt, wSetIx, wAugIx, wAug, wRnil, wRcons, wFn, wRaise, wWord, wRetH, wSetIxH, wCount, wIndex, wIsE, wListRg1, wListRg2, wYes, wIs, wIz, wIl, wIt, wIr1, wIr2, wSlS, wPop, wAppPop, R.wk, R.st, R.ar, R.bl, R.no, R.sq, R.slot, setsR, startR, List.map_cons, List.map_nil, List.cons_append, List.nil_append, List.length_cons, List.length_nil, List.replicate, List.getElem?_cons_zero, List.getElem?_cons_succ, Option.some.injEq, exists_eq_left', exists_eq_left, R.d.injEq, R.own.injEq, R.fr.injEq, List.set_cons_zero, List.set_cons_succ, addD, subD, mulDD, fdivD, modD, ltD, leD, gtD, geD, eqD, neD, isND, isnotND, inDD, notInDD, ixD, negD, lenD, absD, intD, min2D, max2D, listD, tupleD, slD, Nat.reduceAdd, Nat.reduceSub, Nat.add_zero, Nat.zero_add, true_and, and_true, ite_true, ite_false, if_true, if_false, Bool.false_eq_true, reduceIte, Option.some_inj, Bool.true_eq_false, tgW, tgWs, wipe3, List.set_nil, w_law_case_right_9, at_gv hv, gs, hδ])
    have l1 := cut_le (ss.map stepD) none (some (s : Int))
    have l2 := cut_le (ss.map stepD) (some ((s : Int) + 1)) none
    rw [List.length_map] at l1 l2
    refine ⟨by omega, by rw [List.length_append, List.length_singleton]; omega, ?_⟩
    rw [D1]
    (try simp only [wIzM, wWordV, wDc, wDn, wDGet, wDIn, wDNotIn, wDPut, wRetK, wFrzK, keyOf, R.dk.injEq, R.fk.injEq, wRev, neS, wSortLL, wSetIfO, ltDD, sortedDI, wIe, isDD, isnotDD, wPar2, sumDD, eqS, reprD, wV, wC, wNil, wCons, wTup, wLst, wOp, wUn, wCall, wT, wNot, wAnd, wOr, wB, wAndV, wOrV, wNotV, wIf, wIsi, wChain, wNo, wPart, wSl, wSet, wSetO, wTg, wPnil, wPcons, wPar, wNext, wSeq, wRet, wRetO, wRetN, wIfS, wBrk, wCnt, wDrop, wFrz, wApp, wExt, wSetIx, wAugIx, wAug, wRnil, wRcons, wFn, wRaise, wWord, wRetH, wSetIxH, wCount, wIndex, wIsE, wListRg1, wListRg2, wYes, wIs, wIz, wIl, wIt, wIr1, wIr2, wSlS, wPop, wAppPop, R.wk, R.st, R.ar, R.bl, R.no, R.sq, R.slot, setsR, startR, List.map_cons, List.map_nil, List.cons_append, List.nil_append, List.length_cons, List.length_nil, List.replicate, List.getElem?_cons_zero, List.getElem?_cons_succ, Option.some.injEq, exists_eq_left', exists_eq_left, R.d.injEq, R.own.injEq, R.fr.injEq, List.set_cons_zero, List.set_cons_succ, addD, subD, mulDD, fdivD, modD, ltD, leD, gtD, geD, eqD, neD, isND, isnotND, inDD, notInDD, ixD, negD, lenD, absD, intD, min2D, max2D, listD, tupleD, slD, Nat.reduceAdd, Nat.reduceSub, Nat.add_zero, Nat.zero_add, true_and, and_true, ite_true, ite_false, if_true, if_false, Bool.false_eq_true, reduceIte, Option.some_inj, Bool.true_eq_false, tgW, tgWs, wipe3, List.set_nil, w_law_case_right_10, at_gv hv, gs, hδ, ea])
    refine ⟨by omega, by rw [List.length_append, List.length_singleton]; omega, ?_⟩
    rw [D2]
    (try simp only [wIzM, wWordV, wDc, wDn, wDGet, wDIn, wDNotIn, wDPut, wRetK, wFrzK, keyOf, R.dk.injEq, R.fk.injEq, wRev, neS, wSortLL, wSetIfO, ltDD, sortedDI, wIe, isDD, isnotDD, wPar2, sumDD, eqS, reprD, wV, wC, wNil, wCons, wTup, wLst, wOp, wUn, wCall, wT, wNot, wAnd, wOr, wB, wAndV, wOrV, wNotV, wIf, wIsi, wChain, wNo, wPart, wSl, wSet, wSetO, wTg, wPnil, wPcons, wPar, wNext, wSeq, wRet, wRetO, wRetN, wIfS, wBrk, wCnt, wDrop, wFrz, wApp, wExt, wSetIx, wAugIx, wAug, wRnil, wRcons, wFn, wRaise, wWord, wRetH, wSetIxH, wCount, wIndex, wIsE, wListRg1, wListRg2, wYes, wIs, wIz, wIl, wIt, wIr1, wIr2, wSlS, wPop, wAppPop, R.wk, R.st, R.ar, R.bl, R.no, R.sq, R.slot, setsR, startR, List.map_cons, List.map_nil, List.cons_append, List.nil_append, List.length_cons, List.length_nil, List.replicate, List.getElem?_cons_zero, List.getElem?_cons_succ, Option.some.injEq, exists_eq_left', exists_eq_left, R.d.injEq, R.own.injEq, R.fr.injEq, List.set_cons_zero, List.set_cons_succ, addD, subD, mulDD, fdivD, modD, ltD, leD, gtD, geD, eqD, neD, isND, isnotND, inDD, notInDD, ixD, negD, lenD, absD, intD, min2D, max2D, listD, tupleD, slD, Nat.reduceAdd, Nat.reduceSub, Nat.add_zero, Nat.zero_add, true_and, and_true, ite_true, ite_false, if_true, if_false, Bool.false_eq_true, reduceIte, Option.some_inj, Bool.true_eq_false, tgW, tgWs, wipe3, List.set_nil, w_law_case_right_11])
    refine least_ok g1 o1 ?_
    (try simp only [wIzM, wWordV, wDc, wDn, wDGet, wDIn, wDNotIn, wDPut, wRetK, wFrzK, keyOf, R.dk.injEq, R.fk.injEq, wRev, neS, wSortLL, wSetIfO, ltDD, sortedDI, wIe, isDD, isnotDD, wPar2, sumDD, eqS, reprD, wV, wC, wNil, wCons, wTup, wLst, wOp, wUn, wCall, wT, wNot, wAnd, wOr, wB, wAndV, wOrV, wNotV, wIf, wIsi, wChain, wNo, wPart, wSl, wSet, wSetO, wTg, wPnil, wPcons, wPar, wNext, wSeq, wRet, wRetO, wRetN, wIfS, wBrk, wCnt, wDrop, wFrz, wApp, wExt, wSetIx, wAugIx, wAug, wRnil, wRcons, wFn, wRaise, wWord, wRetH, wSetIxH, wCount, wIndex, wIsE, wListRg1, wListRg2, wYes, wIs, wIz, wIl, wIt, wIr1, wIr2, wSlS, wPop, wAppPop, R.wk, R.st, R.ar, R.bl, R.no, R.sq, R.slot, setsR, startR, List.map_cons, List.map_nil, List.cons_append, List.nil_append, List.length_cons, List.length_nil, List.replicate, List.getElem?_cons_zero, List.getElem?_cons_succ, Option.some.injEq, exists_eq_left', exists_eq_left, R.d.injEq, R.own.injEq, R.fr.injEq, List.set_cons_zero, List.set_cons_succ, addD, subD, mulDD, fdivD, modD, ltD, leD, gtD, geD, eqD, neD, isND, isnotND, inDD, notInDD, ixD, negD, lenD, absD, intD, min2D, max2D, listD, tupleD, slD, Nat.reduceAdd, Nat.reduceSub, Nat.add_zero, Nat.zero_add, true_and, and_true, ite_true, ite_false, if_true, if_false, Bool.false_eq_true, reduceIte, Option.some_inj, Bool.true_eq_false, tgW, tgWs, wipe3, List.set_nil])
    refine least_ok g2 o2 ?_
    (try simp only [wIzM, wWordV, wDc, wDn, wDGet, wDIn, wDNotIn, wDPut, wRetK, wFrzK, keyOf, R.dk.injEq, R.fk.injEq, wRev, neS, wSortLL, wSetIfO, ltDD, sortedDI, wIe, isDD, isnotDD, wPar2, sumDD, eqS, reprD, wV, wC, wNil, wCons, wTup, wLst, wOp, wUn, wCall, wT, wNot, wAnd, wOr, wB, wAndV, wOrV, wNotV, wIf, wIsi, wChain, wNo, wPart, wSl, wSet, wSetO, wTg, wPnil, wPcons, wPar, wNext, wSeq, wRet, wRetO, wRetN, wIfS, wBrk, wCnt, wDrop, wFrz, wApp, wExt, wSetIx, wAugIx, wAug, wRnil, wRcons, wFn, wRaise, wWord, wRetH, wSetIxH, wCount, wIndex, wIsE, wListRg1, wListRg2, wYes, wIs, wIz, wIl, wIt, wIr1, wIr2, wSlS, wPop, wAppPop, R.wk, R.st, R.ar, R.bl, R.no, R.sq, R.slot, setsR, startR, List.map_cons, List.map_nil, List.cons_append, List.nil_append, List.length_cons, List.length_nil, List.replicate, List.getElem?_cons_zero, List.getElem?_cons_succ, Option.some.injEq, exists_eq_left', exists_eq_left, R.d.injEq, R.own.injEq, R.fr.injEq, List.set_cons_zero, List.set_cons_succ, addD, subD, mulDD, fdivD, modD, ltD, leD, gtD, geD, eqD, neD, isND, isnotND, inDD, notInDD, ixD, negD, lenD, absD, intD, min2D, max2D, listD, tupleD, slD, Nat.reduceAdd, Nat.reduceSub, Nat.add_zero, Nat.zero_add, true_and, and_true, ite_true, ite_false, if_true, if_false, Bool.false_eq_true, reduceIte, Option.some_inj, Bool.true_eq_false, tgW, tgWs, wipe3, List.set_nil])
    rw [e1, e2]
    have m1 : max (eD ss) (eD ss - δ + δ) = eD ss := by omega
    have m2 : max (eD ss) (eD ss - δ + (δ + 1)) = eD ss + 1 := by omega
    rw [m1, m2]
    refine ⟨(lay_lints [eD ss, eD ss + 1]).sh, (lay_lints [eD ss, eD ss + 1]).sh, ?_⟩
    have ee : PyData.eqv (.list [.int (eD ss), .int (eD ss + 1)]) (.list [.int (eD ss), .int (eD ss + 1)]) = true := eqv_same (lay_lints [eD ss, eD ss + 1])
    rw [ee]
    exact h
theorem ok_law_case_right (D : Txt K mg base T) : Cal false P w K mg base T 9 "_law_case_right" C_law_case_right :=
  cal_of (wb := w_law_case_right) D.d_law_case_right sc_law_case_right bi_law_case_right l_law_case_right (fun f cdv A outer s H E hp hr hgd => ess_cons (es_set (i := 1) sc_law_case_right.nd rfl (by first | exact Or.inl rfl | exact Or.inr rfl) (ev_fnC (ok_law_dish D) hr (by decide) (fun h => by cases h) rfl pass_cx (er_cons (ev_var (pv 0)) (er_cons (ev_int) (er_cons (ev_fnC (ok_law_any D) hr (by decide) (fun h => by cases h) rfl pass_cx (er_cons (ev_var (pv 0)) (er_cons (ev_lst (el_cons selS (ev_int) (el_cons selS (ev_int) (el_cons selS (ev_int) (el_nil))))) (er_nil)))) (er_nil)))))) (ess_cons (es_par (i := 2) (j := 3) rfl sc_law_case_right.nd rfl rfl (by decide) rfl rfl (ep_cons (ev_fnC (ok_law_begins D) hr (by decide) (fun h => by cases h) rfl pass_cx (er_cons (ev_var (pv 1)) (er_nil))) (ep_cons (ev_fnC (ok_law_latest D) hr (by decide) (fun h => by cases h) rfl pass_cx (er_cons (ev_var (pv 1)) (er_nil))) (ep_nil))) rfl) (ess_cons (es_set (i := 4) sc_law_case_right.nd rfl (by first | exact Or.inl rfl | exact Or.inr rfl) (ev_fnC (ok_law_end D) hr (by decide) (fun h => by cases h) rfl pass_cx (er_cons (ev_var (pv 1)) (er_nil)))) (ess_cons (es_setLc (i := 5) (own := [("soon", 12), ("late", 13)]) (g := .tup [.one 12, .one 13]) rfl sc_law_case_right.nd rfl rfl (sw_true rfl rfl rfl (by decide +kernel)) (ei_zip rfl D.n_zip (ev_var (pv 2)) (ev_var (pv 3))) (blkOk_by (N := N_law_case_right) (sc := defScope s_law_case_right) (by decide +kernel)) (by decide) (fun _ _ _ _ _ => pg_tup rfl (pgs_cons (pg_name (i := 12) sc_law_case_right.nd rfl (Or.inl rfl)) (pgs_cons (pg_name (i := 13) sc_law_case_right.nd rfl (Or.inl rfl)) (pgs_nil)))) (fun _ _ _ _ _ => eb_yes) (fun _ _ _ _ _ => ev_op op_subD (ev_var (pv 13)) (ev_var (pv 12)))) (ess_cons (es_set (i := 6) sc_law_case_right.nd rfl (by first | exact Or.inl rfl | exact Or.inr rfl) (ev_lst (el_cons selS (ev_fnC (ok_begins D) hr (by decide) (fun h => by cases h) rfl pass_cx (er_cons (ev_var (pv 1)) (er_nil))) (el_cons selS (ev_fnC (ok_least_minutes D) hr (by decide) (fun h => by cases h) rfl pass_cx (er_cons (ev_var (pv 1)) (er_nil))) (el_cons selS (ev_fnC (ok_latest_begins D) hr (by decide) (fun h => by cases h) rfl pass_cx (er_cons (ev_var (pv 1)) (er_nil))) (el_cons selS (ev_fnC (ok_slack D) hr (by decide) (fun h => by cases h) rfl pass_cx (er_cons (ev_var (pv 1)) (er_nil))) (el_nil))))))) (ess_cons (es_if (PW.pt (ew_or (et_not (et_val (ev_fnC (ok_law_is D) hr (by decide) (fun h => by cases h) rfl pass_cx (er_cons (ev_var (pv 6)) (er_cons (ev_lst (el_cons selS (ev_callTy cr_tuple rfl D.n_tuple bb_tuple (el_cons selW (ev_var (pv 2)) (el_nil))) (el_cons selS (ev_var (pv 4)) (el_cons selS (ev_callTy cr_tuple rfl D.n_tuple bb_tuple (el_cons selW (ev_var (pv 3)) (el_nil))) (el_cons selS (ev_callTy cr_tuple rfl D.n_tuple bb_tuple (el_cons selW (ev_var (pv 5)) (el_nil))) (el_nil)))))) (er_nil)))))) (ew_or1 (et_cmp (op_neT (u64 hr)) (ev_callB (cr_minD rfl) rfl D.n_min bb_min (el_cons selW (ev_var (pv 5)) (el_nil))) (ev_int) (nomark _))))) (ess_one (es_ret (ev_bl))) (ess_nil)) (ess_cons (es_set (i := 7) sc_law_case_right.nd rfl (by first | exact Or.inl rfl | exact Or.inr rfl) (ev_fnC (ok_law_draw D) hr (by decide) (fun h => by cases h) rfl pass_cx (er_cons (ev_var (pv 0)) (er_cons (ev_callB cr_len rfl D.n_len bb_len (el_cons selW (ev_var (pv 1)) (el_nil))) (er_nil))))) (ess_cons (es_tg (g := .tup [.one 8, .one 9]) (ev_ix ix_D (ev_var (pv 1)) (ev_var (pv 7)) (fun _ _ => rfl)) (pg_tup rfl (pgs_cons (pg_name (i := 8) sc_law_case_right.nd rfl (by first | exact Or.inl rfl | exact Or.inr rfl)) (pgs_cons (pg_name (i := 9) sc_law_case_right.nd rfl (by first | exact Or.inl rfl | exact Or.inr rfl)) (pgs_nil))))) (ess_cons (es_if (et_cmp op_gtD (ev_op op_addD (ev_var (pv 8)) (ev_ix ix_D (ev_var (pv 5)) (ev_var (pv 7)) (fun _ _ => rfl))) (ev_int) (nomark _)) (ess_one (es_ret (ev_bl))) (ess_nil)) (ess_cons (es_set (i := 10) sc_law_case_right.nd rfl (by first | exact Or.inl rfl | exact Or.inr rfl) (ev_op op_addD (ev_op op_addD (ev_sl (ev_var (pv 1)) eo_no (eo_part (ev_var (pv 7)))) (ev_tup (el_cons selS (ev_tup (el_cons selS (ev_op op_addD (ev_var (pv 8)) (ev_ix ix_D (ev_var (pv 5)) (ev_var (pv 7)) (fun _ _ => rfl))) (el_cons selS (ev_var (pv 9)) (el_nil)))) (el_nil)))) (ev_sl (ev_var (pv 1)) (eo_part (ev_op op_addD (ev_var (pv 7)) (ev_int))) eo_no))) (ess_cons (es_set (i := 11) sc_law_case_right.nd rfl (by first | exact Or.inl rfl | exact Or.inr rfl) (ev_op op_addD (ev_op op_addD (ev_sl (ev_var (pv 1)) eo_no (eo_part (ev_var (pv 7)))) (ev_tup (el_cons selS (ev_tup (el_cons selS (ev_op op_addD (ev_op op_addD (ev_var (pv 8)) (ev_ix ix_D (ev_var (pv 5)) (ev_var (pv 7)) (fun _ _ => rfl))) (ev_int)) (el_cons selS (ev_var (pv 9)) (el_nil)))) (el_nil)))) (ev_sl (ev_var (pv 1)) (eo_part (ev_op op_addD (ev_var (pv 7)) (ev_int))) eo_no))) (ess_one (es_ret (ev_cmp (op_eqT (u64 hr)) (ev_lst (el_cons selS (ev_fnC (ok_least_minutes D) hr (by decide) (fun h => by cases h) rfl pass_cx (er_cons (ev_var (pv 10)) (er_nil))) (el_cons selS (ev_fnC (ok_least_minutes D) hr (by decide) (fun h => by cases h) rfl pass_cx (er_cons (ev_var (pv 11)) (er_nil))) (el_nil)))) (ev_lst (el_cons selS (ev_var (pv 4)) (el_cons selS (ev_op op_addD (ev_var (pv 4)) (ev_int)) (el_nil)))) (nomark _))))))))))))))) p_law_case_right
/-! ### law -/
abbrev N_law : List Str := ["script", "hand", "dish", "told", "bad", "ring", "words", "turn"]
theorem sc_law : FnScope N_law ["script"] (defScope s_law) := ⟨rfl, rfl, rfl, by decide +kernel, rfl, by decide +kernel, by decide +kernel⟩
theorem bi_law : BindsBy "law" s_law ["script"] := fun _ _ _ _ _ _ us hl => match us, hl with | [_], _ => rfl
def w_law_11 : WS := wRet (wAndV (wOp eqD (wV 6) (wOp addD (wOp mulDD (wLst (wCons R.st (wC (.str "!NoDish")) (wNil))) (wC (.int 2))) (wOp mulDD (wLst (wCons R.st (wC (.str "!NoOrder")) (wNil))) (wC (.int 4))))) (wCall allD (wCons R.wk (wLc (wIr1 (wC (.int 6))) (.one 7) wYes (wFn C_law_case_right (wRcons (wV 1) (wRnil))) [7]) (wNil))))
def w_law_10 : WS := wSeq (wSet 6 (wOp addD (wV 6) (wLst (wCons R.st (wWordV wd_law_word (wFn C_begins (wRcons (wV 5) (wRnil)))) (wCons R.st (wWordV wd_law_word (wFn C_least_minutes (wRcons (wV 5) (wRnil)))) (wNil)))))) (w_law_11)
def w_law_9 : WS := wSeq (wSet 6 (wOp addD (wV 6) (wLst (wCons R.st (wWordV wd_law_word (wFn C_latest_begins (wRcons (wV 5) (wRnil)))) (wCons R.st (wWordV wd_law_word (wFn C_slack (wRcons (wV 5) (wRnil)))) (wNil)))))) (w_law_10)
def w_law_8 : WS := wSeq (wSet 6 (wLst (wCons R.st (wWordV wd_law_word (wFn C_begins (wRcons (wV 4) (wRnil)))) (wCons R.st (wWordV wd_law_word (wFn C_least_minutes (wRcons (wV 4) (wRnil)))) (wNil))))) (w_law_9)
def w_law_7 : WS := wSeq (wSet 5 (wFn C_law_any (wRcons (wV 1) (wRcons (wLst (wCons R.st (wTup (wCons R.st (wTup (wCons R.st (wC (.int 1)) (wCons R.st (wTup (wCons R.st (wC (.int 1)) (wNil))) (wNil)))) (wCons R.st (wTup (wCons R.st (wC (.int 1)) (wCons R.st (wTup (wCons R.st (wC (.int 0)) (wNil))) (wNil)))) (wNil)))) (wCons R.st (wTup (wCons R.st (wTup (wCons R.st (wC (.int 1)) (wCons R.st (wTup (wNil)) (wNil)))) (wCons R.st (wTup (wCons R.st (wC (.int 2)) (wCons R.st (wTup (wCons R.st (wC (.int 2)) (wNil))) (wNil)))) (wCons R.st (wTup (wCons R.st (wC (.int 3)) (wCons R.st (wTup (wCons R.st (wC (.int 1)) (wNil))) (wNil)))) (wNil))))) (wNil)))) (wRnil))))) (w_law_8)
def w_law_6 : WS := wSeq (wSet 4 (wFn C_law_any (wRcons (wV 1) (wRcons (wOp addD (wV 4) (wLst (wCons R.st (wTup (wCons R.st (wTup (wCons R.st (wC (.int 1)) (wCons R.st (wTup (wCons R.st (wC (.int 1)) (wCons R.st (wC (.int 1)) (wNil)))) (wNil)))) (wCons R.st (wTup (wCons R.st (wC (.int 1)) (wCons R.st (wTup (wNil)) (wNil)))) (wNil)))) (wNil)))) (wRnil))))) (w_law_7)
def w_law_5 : WS := wSeq (wSet 4 (wOp addD (wV 4) (wLst (wCons R.st (wTup (wCons R.st (wTup (wCons R.st (wC (.bool true)) (wCons R.st (wTup (wNil)) (wNil)))) (wNil))) (wCons R.st (wTup (wCons R.st (wTup (wCons R.st (wC (.int 1)) (wNil))) (wNil))) (wCons R.st (wOp mulDD (wTup (wCons R.st (wTup (wCons R.st (wC (.int 1)) (wCons R.st (wTup (wNil)) (wNil)))) (wNil))) (wC (.int 11))) (wCons R.st (wTup (wCons R.st (wTup (wCons R.st (wC (.int 1)) (wCons R.st (wTup (wCons R.st (wC (.int 2)) (wCons R.st (wC (.int 1)) (wNil)))) (wNil)))) (wCons R.st (wTup (wCons R.st (wC (.int 1)) (wCons R.st (wTup (wNil)) (wNil)))) (wCons R.st (wTup (wCons R.st (wC (.int 1)) (wCons R.st (wTup (wNil)) (wNil)))) (wNil))))) (wNil)))))))) (w_law_6)
def w_law_4 : WS := wSeq (wSet 4 (wLst (wCons R.st (wC .none) (wCons R.st (wTup (wNil)) (wCons R.st (wLst (wCons R.st (wTup (wCons R.st (wC (.int 1)) (wCons R.st (wTup (wNil)) (wNil)))) (wNil))) (wCons R.st (wTup (wCons R.st (wTup (wCons R.st (wC (.int 0)) (wCons R.st (wTup (wNil)) (wNil)))) (wNil))) (wCons R.st (wTup (wCons R.st (wTup (wCons R.st (wC (.int 601)) (wCons R.st (wTup (wNil)) (wNil)))) (wNil))) (wCons R.st (wTup (wCons R.st (wTup (wCons R.st (wC (.int 1)) (wCons R.st (wTup (wCons R.st (wC (.int 0)) (wNil))) (wNil)))) (wNil))) (wCons R.st (wTup (wCons R.st (wTup (wCons R.st (wC (.int 1)) (wCons R.st (wTup (wCons R.st (wC (.int 1)) (wNil))) (wNil)))) (wNil))) (wCons R.st (wTup (wCons R.st (wTup (wCons R.st (wC (.int 1)) (wCons R.st (wLst (wNil)) (wNil)))) (wNil))) (wCons R.st (wC (.str "?")) (wCons R.st (wC (.int 0)) (wNil))))))))))))) (w_law_5)
def w_law_3 : WS := wSeq (wIfS (wNot (wT (wFn C_law_is (wRcons (wV 3) (wRcons (wLst (wCons R.st (wTup (wCons R.st (wC (.int 0)) (wCons R.st (wC (.int 0)) (wCons R.st (wC (.int 5)) (wCons R.st (wC (.int 3)) (wNil)))))) (wCons R.st (wC (.int 7)) (wCons R.st (wTup (wCons R.st (wC (.int 2)) (wCons R.st (wC (.int 0)) (wCons R.st (wC (.int 5)) (wCons R.st (wC (.int 6)) (wNil)))))) (wCons R.st (wTup (wCons R.st (wC (.int 2)) (wCons R.st (wC (.int 0)) (wCons R.st (wC (.int 0)) (wCons R.st (wC (.int 3)) (wNil)))))) (wNil)))))) (wRnil)))))) (wRet (wC (.bool false))) (wNext)) (w_law_4)
def w_law_2 : WS := wSeq (wSet 3 (wLst (wCons R.st (wFn C_begins (wRcons (wV 2) (wRnil))) (wCons R.st (wFn C_least_minutes (wRcons (wV 2) (wRnil))) (wCons R.st (wFn C_latest_begins (wRcons (wV 2) (wRnil))) (wCons R.st (wFn C_slack (wRcons (wV 2) (wRnil))) (wNil))))))) (w_law_3)
def w_law_1 : WS := wSeq (wSet 2 (wTup (wCons R.st (wTup (wCons R.st (wC (.int 3)) (wCons R.st (wTup (wNil)) (wNil)))) (wCons R.st (wTup (wCons R.st (wC (.int 5)) (wCons R.st (wTup (wNil)) (wNil)))) (wCons R.st (wTup (wCons R.st (wC (.int 2)) (wCons R.st (wTup (wCons R.st (wC (.int 0)) (wCons R.st (wC (.int 1)) (wNil)))) (wNil)))) (wCons R.st (wTup (wCons R.st (wC (.int 1)) (wCons R.st (wTup (wCons R.st (wC (.int 0)) (wNil))) (wNil)))) (wNil))))))) (w_law_2)
def w_law : WS := wSeq (wSet 1 (wFn C_law_hand (wRcons (wV 0) (wRnil)))) (w_law_1)
-- splitall
theorem good_of {ss : List St} (h : okDish (dsD ss) = true) : GoodD ss := by
  obtain ⟨ss', e, g⟩ := dish_of h
  rw [dsD_inj e]
  exact g
abbrev ss0 : List St := [(3, []), (5, []), (2, [0, 1]), (1, [0])]
abbrev ds0 : PyData := .tuple [.tuple [.int 3, .tuple []], .tuple [.int 5, .tuple []], .tuple [.int 2, .tuple [.int 0, .int 1]], .tuple [.int 1, .tuple [.int 0]]]
theorem ds0_eq : dsD ss0 = ds0 := rfl
theorem g0 : GoodD ss0 := good_of (by decide +kernel)
theorem o0 : (ordL ss0).length = ss0.length := by decide +kernel
theorem b0 : bL ss0 = [0, 0, 5, 3] := by decide +kernel
theorem e0 : eD ss0 = 7 := by decide +kernel
theorem l0 : lLs ss0 = [2, 0, 5, 6] := by decide +kernel
theorem s0 : sL ss0 = [2, 0, 0, 3] := by decide +kernel
theorem begins_0 {Q : R → Prop} {X : Exc → Prop} (h : Q (.d (.tuple [.int 0, .int 0, .int 5, .int 3]))) : C_begins [.d ds0] Q X := by
  have z := begins_ok (Q := Q) (X := X) g0 o0
  rw [b0] at z
  exact z h
theorem least_0 {Q : R → Prop} {X : Exc → Prop} (h : Q (.d (.int 7))) : C_least_minutes [.d ds0] Q X := by
  have z := least_ok (Q := Q) (X := X) g0 o0
  rw [e0] at z
  exact z h
theorem latest_0 {Q : R → Prop} {X : Exc → Prop} (h : Q (.d (.tuple [.int 2, .int 0, .int 5, .int 6]))) : C_latest_begins [.d ds0] Q X := by
  have z := latest_ok (Q := Q) (X := X) g0 o0
  rw [l0] at z
  exact z h
theorem slack_0 {Q : R → Prop} {X : Exc → Prop} (h : Q (.d (.tuple [.int 2, .int 0, .int 0, .int 3]))) : C_slack [.d ds0] Q X := by
  have z := slack_ok (Q := Q) (X := X) g0 o0
  rw [s0] at z
  exact z h
abbrev toldD : PyData := .list [.tuple [.int 0, .int 0, .int 5, .int 3], .int 7, .tuple [.int 2, .int 0, .int 5, .int 6], .tuple [.int 2, .int 0, .int 0, .int 3]]
theorem is_0 {Q : R → Prop} {X : Exc → Prop} (h : Q (.d (.bool true))) : C_law_is [.d toldD, .d toldD] Q X := by
  refine ⟨_, rfl, fun x hx => ?_, h⟩
  simp only [List.mem_cons, List.not_mem_nil, or_false] at hx
  rcases hx with rfl | rfl | rfl | rfl
  · exact simp_ints [0, 0, 5, 3]
  · trivial
  · exact simp_ints [2, 0, 5, 6]
  · exact simp_ints [2, 0, 0, 3]
theorem begins_no {x : PyData} (hx : okDish x = false) {Q : R → Prop} {X : Exc → Prop} (h : X ⟨"NoDish", none⟩) : C_begins [.d x] Q X := ⟨x, rfl, fun _ => h, fun ss e g => by
  rw [e, dish_ok g] at hx
  cases hx⟩
theorem least_no {x : PyData} (hx : okDish x = false) {Q : R → Prop} {X : Exc → Prop} (h : X ⟨"NoDish", none⟩) : C_least_minutes [.d x] Q X := ⟨x, rfl, fun _ => h, fun ss e g => by
  rw [e, dish_ok g] at hx
  cases hx⟩
/-- a dish with a ring -/
structure Ring (ss : List St) : Prop where
  g : GoodD ss
  no : (ordL ss).length ≠ ss.length
theorem begins_ring {ss : List St} (r : Ring ss) {Q : R → Prop} {X : Exc → Prop} (h : X ⟨"NoOrder", none⟩) : C_begins [.d (dsD ss)] Q X := by
  refine ⟨_, rfl, fun e => ?_, fun ss' e _ => ?_⟩
  · rw [dish_ok r.g] at e
    cases e
  · cases dsD_inj e
    exact ⟨fun _ => h, fun c => (r.no c).elim⟩
theorem least_ring {ss : List St} (r : Ring ss) {Q : R → Prop} {X : Exc → Prop} (h : X ⟨"NoOrder", none⟩) : C_least_minutes [.d (dsD ss)] Q X := by
  refine ⟨_, rfl, fun e => ?_, fun ss' e _ => ?_⟩
  · rw [dish_ok r.g] at e
    cases e
  · cases dsD_inj e
    exact ⟨fun _ => h, fun c => (r.no c).elim⟩
theorem latest_ring {ss : List St} (r : Ring ss) {Q : R → Prop} {X : Exc → Prop} (h : X ⟨"NoOrder", none⟩) : C_latest_begins [.d (dsD ss)] Q X := by
  refine ⟨_, rfl, fun e => ?_, fun ss' e _ => ?_⟩
  · rw [dish_ok r.g] at e
    cases e
  · cases dsD_inj e
    exact ⟨fun _ => h, fun c => (r.no c).elim⟩
theorem slack_ring {ss : List St} (r : Ring ss) {Q : R → Prop} {X : Exc → Prop} (h : X ⟨"NoOrder", none⟩) : C_slack [.d (dsD ss)] Q X := by
  refine ⟨_, rfl, fun e => ?_, fun ss' e _ => ?_⟩
  · rw [dish_ok r.g] at e
    cases e
  · cases dsD_inj e
    exact ⟨fun _ => h, fun c => (r.no c).elim⟩
theorem ring_1 : Ring [(1, [1]), (1, [0])] := ⟨good_of (by decide +kernel), by decide +kernel⟩
theorem ring_2 : Ring [(1, []), (2, [2]), (3, [1])] := ⟨good_of (by decide +kernel), by decide +kernel⟩
def C_law : Ct := fun rs Q _ => ∃ ns : List Int, rs = [.scr ns] ∧ ns.length ≤ 63 ∧ Q (.d (.bool true))
theorem l_law : ∀ rs Q X, C_law rs Q X → rs.length = 1 := by
  rintro rs Q X ⟨_, rfl, _⟩
  rfl
abbrev dE (Q : R → Prop) : End3 := ⟨fun _ => Q (.d .none), Q, fun _ => False, fun _ => False⟩
abbrev wordsD : List PyData := [.str "!NoDish", .str "!NoDish", .str "!NoOrder", .str "!NoOrder", .str "!NoOrder", .str "!NoOrder"]
theorem p_law_11 {Q : R → Prop} {X : Exc → Prop} {o0 o2 o3 o4 o5 o7 : Option R} (h : Q (.d (.bool true))) : w_law_11 (dE Q) [o0, some (.hand L_hand), o2, o3, o4, o5, some (.d (.list wordsD)), o7] X := by
  have sh : SeqAt.shaped (PyData.list wordsD) = true := by decide +kernel
  have e : (PyData.list wordsD).eqv (PyData.list wordsD) = true := SeqAt.eqv_refl _ (SeqAt.canLay_of_shaped sh)
  (try simp only [wIzM, wWordV, wDc, wDn, wDGet, wDIn, wDNotIn, wDPut, wRetK, wFrzK, keyOf, R.dk.injEq, R.fk.injEq, wRev, neS, wSortLL, wSetIfO, ltDD, sortedDI, wIe, isDD, isnotDD, wPar2, sumDD, eqS, reprD, wV, wC, wNil, wCons, wTup, wLst, wOp, wUn, wCall, wT, wNot, wAnd, wOr, wB, wAndV, wOrV, wNotV, wIf, wIsi, wChain, wNo, wPart, wSl, wSet, wSetO, wTg, wPnil, wPcons, wPar, wNext, wSeq, wRet, wRetO, wRetN, wIfS, wBrk, wCnt, wDrop, wFrz, wApp, wExt, wSetIx, wAugIx, wAug, wRnil, wRcons, wFn, wRaise, wWord, wRetH, wSetIxH, wCount, wIndex, wIsE, wListRg1, wListRg2, wYes, wIs, wIz, wIl, wIt, wIr1, wIr2, wSlS, wPop, wAppPop, R.wk, R.st, R.ar, R.bl, R.no, R.sq, R.slot, setsR, startR, List.map_cons, List.map_nil, List.cons_append, List.nil_append, List.length_cons, List.length_nil, List.replicate, List.getElem?_cons_zero, List.getElem?_cons_succ, Option.some.injEq, exists_eq_left', exists_eq_left, R.d.injEq, R.own.injEq, R.fr.injEq, List.set_cons_zero, List.set_cons_succ, addD, subD, mulDD, fdivD, modD, ltD, leD, gtD, geD, eqD, neD, isND, isnotND, inDD, notInDD, ixD, negD, lenD, absD, intD, min2D, max2D, listD, tupleD, slD, Nat.reduceAdd, Nat.reduceSub, Nat.add_zero, Nat.zero_add, true_and, and_true, ite_true, ite_false, if_true, if_false, Bool.false_eq_true, reduceIte, Option.some_inj, Bool.true_eq_false, tgW, tgWs, wipe3, List.set_nil, w_law_11, wLc])
  have ew : (List.replicate (Int.toNat 2) [PyData.str "!NoDish"]).flatten ++ (List.replicate (Int.toNat 4) [PyData.str "!NoOrder"]).flatten = wordsD := rfl
  rw [ew, e, sizeLine_eq]
  refine ⟨⟨by decide, by decide, by decide⟩, ⟨by decide, by decide, by decide⟩, by decide, sh, sh, ?_⟩
  rw [if_pos rfl]
  refine ⟨⟨by decide, by decide⟩, ?_⟩
  refine lc_map (fun _ => .bool true) _ (fun x hx k hk => ?_) ?_
  · (try simp only [wIzM, wWordV, wDc, wDn, wDGet, wDIn, wDNotIn, wDPut, wRetK, wFrzK, keyOf, R.dk.injEq, R.fk.injEq, wRev, neS, wSortLL, wSetIfO, ltDD, sortedDI, wIe, isDD, isnotDD, wPar2, sumDD, eqS, reprD, wV, wC, wNil, wCons, wTup, wLst, wOp, wUn, wCall, wT, wNot, wAnd, wOr, wB, wAndV, wOrV, wNotV, wIf, wIsi, wChain, wNo, wPart, wSl, wSet, wSetO, wTg, wPnil, wPcons, wPar, wNext, wSeq, wRet, wRetO, wRetN, wIfS, wBrk, wCnt, wDrop, wFrz, wApp, wExt, wSetIx, wAugIx, wAug, wRnil, wRcons, wFn, wRaise, wWord, wRetH, wSetIxH, wCount, wIndex, wIsE, wListRg1, wListRg2, wYes, wIs, wIz, wIl, wIt, wIr1, wIr2, wSlS, wPop, wAppPop, R.wk, R.st, R.ar, R.bl, R.no, R.sq, R.slot, setsR, startR, List.map_cons, List.map_nil, List.cons_append, List.nil_append, List.length_cons, List.length_nil, List.replicate, List.getElem?_cons_zero, List.getElem?_cons_succ, Option.some.injEq, exists_eq_left', exists_eq_left, R.d.injEq, R.own.injEq, R.fr.injEq, List.set_cons_zero, List.set_cons_succ, addD, subD, mulDD, fdivD, modD, ltD, leD, gtD, geD, eqD, neD, isND, isnotND, inDD, notInDD, ixD, negD, lenD, absD, intD, min2D, max2D, listD, tupleD, slD, Nat.reduceAdd, Nat.reduceSub, Nat.add_zero, Nat.zero_add, true_and, and_true, ite_true, ite_false, if_true, if_false, Bool.false_eq_true, reduceIte, Option.some_inj, Bool.true_eq_false, tgW, tgWs, wipe3, List.set_nil, C_law_case_right])
    exact hk
  · (try simp only [wIzM, wWordV, wDc, wDn, wDGet, wDIn, wDNotIn, wDPut, wRetK, wFrzK, keyOf, R.dk.injEq, R.fk.injEq, wRev, neS, wSortLL, wSetIfO, ltDD, sortedDI, wIe, isDD, isnotDD, wPar2, sumDD, eqS, reprD, wV, wC, wNil, wCons, wTup, wLst, wOp, wUn, wCall, wT, wNot, wAnd, wOr, wB, wAndV, wOrV, wNotV, wIf, wIsi, wChain, wNo, wPart, wSl, wSet, wSetO, wTg, wPnil, wPcons, wPar, wNext, wSeq, wRet, wRetO, wRetN, wIfS, wBrk, wCnt, wDrop, wFrz, wApp, wExt, wSetIx, wAugIx, wAug, wRnil, wRcons, wFn, wRaise, wWord, wRetH, wSetIxH, wCount, wIndex, wIsE, wListRg1, wListRg2, wYes, wIs, wIz, wIl, wIt, wIr1, wIr2, wSlS, wPop, wAppPop, R.wk, R.st, R.ar, R.bl, R.no, R.sq, R.slot, setsR, startR, List.map_cons, List.map_nil, List.cons_append, List.nil_append, List.length_cons, List.length_nil, List.replicate, List.getElem?_cons_zero, List.getElem?_cons_succ, Option.some.injEq, exists_eq_left', exists_eq_left, R.d.injEq, R.own.injEq, R.fr.injEq, List.set_cons_zero, List.set_cons_succ, addD, subD, mulDD, fdivD, modD, ltD, leD, gtD, geD, eqD, neD, isND, isnotND, inDD, notInDD, ixD, negD, lenD, absD, intD, min2D, max2D, listD, tupleD, slD, Nat.reduceAdd, Nat.reduceSub, Nat.add_zero, Nat.zero_add, true_and, and_true, ite_true, ite_false, if_true, if_false, Bool.false_eq_true, reduceIte, Option.some_inj, Bool.true_eq_false, tgW, tgWs, wipe3, List.set_nil, allD])
    exact ⟨[true, true, true, true, true, true], rfl, h⟩
theorem p_law_8 {bad : PyData} {rr : List St} (hb : okDish bad = false) (hr : Ring rr) {Q : R → Prop} {X : Exc → Prop} {o0 o2 o3 o6 o7 : Option R} (h : Q (.d (.bool true))) : w_law_8 (dE Q) [o0, some (.hand L_hand), o2, o3, some (.d bad), some (.d (dsD rr)), o6, o7] X := by
  (try simp only [wIzM, wWordV, wDc, wDn, wDGet, wDIn, wDNotIn, wDPut, wRetK, wFrzK, keyOf, R.dk.injEq, R.fk.injEq, wRev, neS, wSortLL, wSetIfO, ltDD, sortedDI, wIe, isDD, isnotDD, wPar2, sumDD, eqS, reprD, wV, wC, wNil, wCons, wTup, wLst, wOp, wUn, wCall, wT, wNot, wAnd, wOr, wB, wAndV, wOrV, wNotV, wIf, wIsi, wChain, wNo, wPart, wSl, wSet, wSetO, wTg, wPnil, wPcons, wPar, wNext, wSeq, wRet, wRetO, wRetN, wIfS, wBrk, wCnt, wDrop, wFrz, wApp, wExt, wSetIx, wAugIx, wAug, wRnil, wRcons, wFn, wRaise, wWord, wRetH, wSetIxH, wCount, wIndex, wIsE, wListRg1, wListRg2, wYes, wIs, wIz, wIl, wIt, wIr1, wIr2, wSlS, wPop, wAppPop, R.wk, R.st, R.ar, R.bl, R.no, R.sq, R.slot, setsR, startR, List.map_cons, List.map_nil, List.cons_append, List.nil_append, List.length_cons, List.length_nil, List.replicate, List.getElem?_cons_zero, List.getElem?_cons_succ, Option.some.injEq, exists_eq_left', exists_eq_left, R.d.injEq, R.own.injEq, R.fr.injEq, List.set_cons_zero, List.set_cons_succ, addD, subD, mulDD, fdivD, modD, ltD, leD, gtD, geD, eqD, neD, isND, isnotND, inDD, notInDD, ixD, negD, lenD, absD, intD, min2D, max2D, listD, tupleD, slD, Nat.reduceAdd, Nat.reduceSub, Nat.add_zero, Nat.zero_add, true_and, and_true, ite_true, ite_false, if_true, if_false, Bool.false_eq_true, reduceIte, Option.some_inj, Bool.true_eq_false, tgW, tgWs, wipe3, List.set_nil, w_law_8])
  refine begins_no hb ⟨"!NoDish", by decide +kernel, ?_⟩
  (try simp only [wIzM, wWordV, wDc, wDn, wDGet, wDIn, wDNotIn, wDPut, wRetK, wFrzK, keyOf, R.dk.injEq, R.fk.injEq, wRev, neS, wSortLL, wSetIfO, ltDD, sortedDI, wIe, isDD, isnotDD, wPar2, sumDD, eqS, reprD, wV, wC, wNil, wCons, wTup, wLst, wOp, wUn, wCall, wT, wNot, wAnd, wOr, wB, wAndV, wOrV, wNotV, wIf, wIsi, wChain, wNo, wPart, wSl, wSet, wSetO, wTg, wPnil, wPcons, wPar, wNext, wSeq, wRet, wRetO, wRetN, wIfS, wBrk, wCnt, wDrop, wFrz, wApp, wExt, wSetIx, wAugIx, wAug, wRnil, wRcons, wFn, wRaise, wWord, wRetH, wSetIxH, wCount, wIndex, wIsE, wListRg1, wListRg2, wYes, wIs, wIz, wIl, wIt, wIr1, wIr2, wSlS, wPop, wAppPop, R.wk, R.st, R.ar, R.bl, R.no, R.sq, R.slot, setsR, startR, List.map_cons, List.map_nil, List.cons_append, List.nil_append, List.length_cons, List.length_nil, List.replicate, List.getElem?_cons_zero, List.getElem?_cons_succ, Option.some.injEq, exists_eq_left', exists_eq_left, R.d.injEq, R.own.injEq, R.fr.injEq, List.set_cons_zero, List.set_cons_succ, addD, subD, mulDD, fdivD, modD, ltD, leD, gtD, geD, eqD, neD, isND, isnotND, inDD, notInDD, ixD, negD, lenD, absD, intD, min2D, max2D, listD, tupleD, slD, Nat.reduceAdd, Nat.reduceSub, Nat.add_zero, Nat.zero_add, true_and, and_true, ite_true, ite_false, if_true, if_false, Bool.false_eq_true, reduceIte, Option.some_inj, Bool.true_eq_false, tgW, tgWs, wipe3, List.set_nil])
  refine least_no hb ⟨"!NoDish", by decide +kernel, ?_⟩
  (try simp only [wIzM, wWordV, wDc, wDn, wDGet, wDIn, wDNotIn, wDPut, wRetK, wFrzK, keyOf, R.dk.injEq, R.fk.injEq, wRev, neS, wSortLL, wSetIfO, ltDD, sortedDI, wIe, isDD, isnotDD, wPar2, sumDD, eqS, reprD, wV, wC, wNil, wCons, wTup, wLst, wOp, wUn, wCall, wT, wNot, wAnd, wOr, wB, wAndV, wOrV, wNotV, wIf, wIsi, wChain, wNo, wPart, wSl, wSet, wSetO, wTg, wPnil, wPcons, wPar, wNext, wSeq, wRet, wRetO, wRetN, wIfS, wBrk, wCnt, wDrop, wFrz, wApp, wExt, wSetIx, wAugIx, wAug, wRnil, wRcons, wFn, wRaise, wWord, wRetH, wSetIxH, wCount, wIndex, wIsE, wListRg1, wListRg2, wYes, wIs, wIz, wIl, wIt, wIr1, wIr2, wSlS, wPop, wAppPop, R.wk, R.st, R.ar, R.bl, R.no, R.sq, R.slot, setsR, startR, List.map_cons, List.map_nil, List.cons_append, List.nil_append, List.length_cons, List.length_nil, List.replicate, List.getElem?_cons_zero, List.getElem?_cons_succ, Option.some.injEq, exists_eq_left', exists_eq_left, R.d.injEq, R.own.injEq, R.fr.injEq, List.set_cons_zero, List.set_cons_succ, addD, subD, mulDD, fdivD, modD, ltD, leD, gtD, geD, eqD, neD, isND, isnotND, inDD, notInDD, ixD, negD, lenD, absD, intD, min2D, max2D, listD, tupleD, slD, Nat.reduceAdd, Nat.reduceSub, Nat.add_zero, Nat.zero_add, true_and, and_true, ite_true, ite_false, if_true, if_false, Bool.false_eq_true, reduceIte, Option.some_inj, Bool.true_eq_false, tgW, tgWs, wipe3, List.set_nil, w_law_9])
  refine latest_ring hr ⟨"!NoOrder", by decide +kernel, ?_⟩
  (try simp only [wIzM, wWordV, wDc, wDn, wDGet, wDIn, wDNotIn, wDPut, wRetK, wFrzK, keyOf, R.dk.injEq, R.fk.injEq, wRev, neS, wSortLL, wSetIfO, ltDD, sortedDI, wIe, isDD, isnotDD, wPar2, sumDD, eqS, reprD, wV, wC, wNil, wCons, wTup, wLst, wOp, wUn, wCall, wT, wNot, wAnd, wOr, wB, wAndV, wOrV, wNotV, wIf, wIsi, wChain, wNo, wPart, wSl, wSet, wSetO, wTg, wPnil, wPcons, wPar, wNext, wSeq, wRet, wRetO, wRetN, wIfS, wBrk, wCnt, wDrop, wFrz, wApp, wExt, wSetIx, wAugIx, wAug, wRnil, wRcons, wFn, wRaise, wWord, wRetH, wSetIxH, wCount, wIndex, wIsE, wListRg1, wListRg2, wYes, wIs, wIz, wIl, wIt, wIr1, wIr2, wSlS, wPop, wAppPop, R.wk, R.st, R.ar, R.bl, R.no, R.sq, R.slot, setsR, startR, List.map_cons, List.map_nil, List.cons_append, List.nil_append, List.length_cons, List.length_nil, List.replicate, List.getElem?_cons_zero, List.getElem?_cons_succ, Option.some.injEq, exists_eq_left', exists_eq_left, R.d.injEq, R.own.injEq, R.fr.injEq, List.set_cons_zero, List.set_cons_succ, addD, subD, mulDD, fdivD, modD, ltD, leD, gtD, geD, eqD, neD, isND, isnotND, inDD, notInDD, ixD, negD, lenD, absD, intD, min2D, max2D, listD, tupleD, slD, Nat.reduceAdd, Nat.reduceSub, Nat.add_zero, Nat.zero_add, true_and, and_true, ite_true, ite_false, if_true, if_false, Bool.false_eq_true, reduceIte, Option.some_inj, Bool.true_eq_false, tgW, tgWs, wipe3, List.set_nil])
  refine slack_ring hr ⟨"!NoOrder", by decide +kernel, ?_⟩
  (try simp only [wIzM, wWordV, wDc, wDn, wDGet, wDIn, wDNotIn, wDPut, wRetK, wFrzK, keyOf, R.dk.injEq, R.fk.injEq, wRev, neS, wSortLL, wSetIfO, ltDD, sortedDI, wIe, isDD, isnotDD, wPar2, sumDD, eqS, reprD, wV, wC, wNil, wCons, wTup, wLst, wOp, wUn, wCall, wT, wNot, wAnd, wOr, wB, wAndV, wOrV, wNotV, wIf, wIsi, wChain, wNo, wPart, wSl, wSet, wSetO, wTg, wPnil, wPcons, wPar, wNext, wSeq, wRet, wRetO, wRetN, wIfS, wBrk, wCnt, wDrop, wFrz, wApp, wExt, wSetIx, wAugIx, wAug, wRnil, wRcons, wFn, wRaise, wWord, wRetH, wSetIxH, wCount, wIndex, wIsE, wListRg1, wListRg2, wYes, wIs, wIz, wIl, wIt, wIr1, wIr2, wSlS, wPop, wAppPop, R.wk, R.st, R.ar, R.bl, R.no, R.sq, R.slot, setsR, startR, List.map_cons, List.map_nil, List.cons_append, List.nil_append, List.length_cons, List.length_nil, List.replicate, List.getElem?_cons_zero, List.getElem?_cons_succ, Option.some.injEq, exists_eq_left', exists_eq_left, R.d.injEq, R.own.injEq, R.fr.injEq, List.set_cons_zero, List.set_cons_succ, addD, subD, mulDD, fdivD, modD, ltD, leD, gtD, geD, eqD, neD, isND, isnotND, inDD, notInDD, ixD, negD, lenD, absD, intD, min2D, max2D, listD, tupleD, slD, Nat.reduceAdd, Nat.reduceSub, Nat.add_zero, Nat.zero_add, true_and, and_true, ite_true, ite_false, if_true, if_false, Bool.false_eq_true, reduceIte, Option.some_inj, Bool.true_eq_false, tgW, tgWs, wipe3, List.set_nil, w_law_10])
  refine ⟨by rw [sizeLine_eq]; omega, ?_⟩
  refine begins_ring hr ⟨"!NoOrder", by decide +kernel, ?_⟩
  (try simp only [wIzM, wWordV, wDc, wDn, wDGet, wDIn, wDNotIn, wDPut, wRetK, wFrzK, keyOf, R.dk.injEq, R.fk.injEq, wRev, neS, wSortLL, wSetIfO, ltDD, sortedDI, wIe, isDD, isnotDD, wPar2, sumDD, eqS, reprD, wV, wC, wNil, wCons, wTup, wLst, wOp, wUn, wCall, wT, wNot, wAnd, wOr, wB, wAndV, wOrV, wNotV, wIf, wIsi, wChain, wNo, wPart, wSl, wSet, wSetO, wTg, wPnil, wPcons, wPar, wNext, wSeq, wRet, wRetO, wRetN, wIfS, wBrk, wCnt, wDrop, wFrz, wApp, wExt, wSetIx, wAugIx, wAug, wRnil, wRcons, wFn, wRaise, wWord, wRetH, wSetIxH, wCount, wIndex, wIsE, wListRg1, wListRg2, wYes, wIs, wIz, wIl, wIt, wIr1, wIr2, wSlS, wPop, wAppPop, R.wk, R.st, R.ar, R.bl, R.no, R.sq, R.slot, setsR, startR, List.map_cons, List.map_nil, List.cons_append, List.nil_append, List.length_cons, List.length_nil, List.replicate, List.getElem?_cons_zero, List.getElem?_cons_succ, Option.some.injEq, exists_eq_left', exists_eq_left, R.d.injEq, R.own.injEq, R.fr.injEq, List.set_cons_zero, List.set_cons_succ, addD, subD, mulDD, fdivD, modD, ltD, leD, gtD, geD, eqD, neD, isND, isnotND, inDD, notInDD, ixD, negD, lenD, absD, intD, min2D, max2D, listD, tupleD, slD, Nat.reduceAdd, Nat.reduceSub, Nat.add_zero, Nat.zero_add, true_and, and_true, ite_true, ite_false, if_true, if_false, Bool.false_eq_true, reduceIte, Option.some_inj, Bool.true_eq_false, tgW, tgWs, wipe3, List.set_nil])
  refine least_ring hr ⟨"!NoOrder", by decide +kernel, ?_⟩
  (try simp only [wIzM, wWordV, wDc, wDn, wDGet, wDIn, wDNotIn, wDPut, wRetK, wFrzK, keyOf, R.dk.injEq, R.fk.injEq, wRev, neS, wSortLL, wSetIfO, ltDD, sortedDI, wIe, isDD, isnotDD, wPar2, sumDD, eqS, reprD, wV, wC, wNil, wCons, wTup, wLst, wOp, wUn, wCall, wT, wNot, wAnd, wOr, wB, wAndV, wOrV, wNotV, wIf, wIsi, wChain, wNo, wPart, wSl, wSet, wSetO, wTg, wPnil, wPcons, wPar, wNext, wSeq, wRet, wRetO, wRetN, wIfS, wBrk, wCnt, wDrop, wFrz, wApp, wExt, wSetIx, wAugIx, wAug, wRnil, wRcons, wFn, wRaise, wWord, wRetH, wSetIxH, wCount, wIndex, wIsE, wListRg1, wListRg2, wYes, wIs, wIz, wIl, wIt, wIr1, wIr2, wSlS, wPop, wAppPop, R.wk, R.st, R.ar, R.bl, R.no, R.sq, R.slot, setsR, startR, List.map_cons, List.map_nil, List.cons_append, List.nil_append, List.length_cons, List.length_nil, List.replicate, List.getElem?_cons_zero, List.getElem?_cons_succ, Option.some.injEq, exists_eq_left', exists_eq_left, R.d.injEq, R.own.injEq, R.fr.injEq, List.set_cons_zero, List.set_cons_succ, addD, subD, mulDD, fdivD, modD, ltD, leD, gtD, geD, eqD, neD, isND, isnotND, inDD, notInDD, ixD, negD, lenD, absD, intD, min2D, max2D, listD, tupleD, slD, Nat.reduceAdd, Nat.reduceSub, Nat.add_zero, Nat.zero_add, true_and, and_true, ite_true, ite_false, if_true, if_false, Bool.false_eq_true, reduceIte, Option.some_inj, Bool.true_eq_false, tgW, tgWs, wipe3, List.set_nil])
  refine ⟨by rw [sizeLine_eq]; omega, ?_⟩
  exact p_law_11 h
theorem p_law_7 {bad : PyData} (hb : okDish bad = false) {Q : R → Prop} {X : Exc → Prop} {o0 o2 o3 o5 o6 o7 : Option R} (h : Q (.d (.bool true))) : w_law_7 (dE Q) [o0, some (.hand L_hand), o2, o3, some (.d bad), o5, o6, o7] X := by
  (try simp only [wIzM, wWordV, wDc, wDn, wDGet, wDIn, wDNotIn, wDPut, wRetK, wFrzK, keyOf, R.dk.injEq, R.fk.injEq, wRev, neS, wSortLL, wSetIfO, ltDD, sortedDI, wIe, isDD, isnotDD, wPar2, sumDD, eqS, reprD, wV, wC, wNil, wCons, wTup, wLst, wOp, wUn, wCall, wT, wNot, wAnd, wOr, wB, wAndV, wOrV, wNotV, wIf, wIsi, wChain, wNo, wPart, wSl, wSet, wSetO, wTg, wPnil, wPcons, wPar, wNext, wSeq, wRet, wRetO, wRetN, wIfS, wBrk, wCnt, wDrop, wFrz, wApp, wExt, wSetIx, wAugIx, wAug, wRnil, wRcons, wFn, wRaise, wWord, wRetH, wSetIxH, wCount, wIndex, wIsE, wListRg1, wListRg2, wYes, wIs, wIz, wIl, wIt, wIr1, wIr2, wSlS, wPop, wAppPop, R.wk, R.st, R.ar, R.bl, R.no, R.sq, R.slot, setsR, startR, List.map_cons, List.map_nil, List.cons_append, List.nil_append, List.length_cons, List.length_nil, List.replicate, List.getElem?_cons_zero, List.getElem?_cons_succ, Option.some.injEq, exists_eq_left', exists_eq_left, R.d.injEq, R.own.injEq, R.fr.injEq, List.set_cons_zero, List.set_cons_succ, addD, subD, mulDD, fdivD, modD, ltD, leD, gtD, geD, eqD, neD, isND, isnotND, inDD, notInDD, ixD, negD, lenD, absD, intD, min2D, max2D, listD, tupleD, slD, Nat.reduceAdd, Nat.reduceSub, Nat.add_zero, Nat.zero_add, true_and, and_true, ite_true, ite_false, if_true, if_false, Bool.false_eq_true, reduceIte, Option.some_inj, Bool.true_eq_false, tgW, tgWs, wipe3, List.set_nil, w_law_7])
  refine any_some (by decide) (by decide) fun x hx => ?_
  simp only [List.mem_cons, List.not_mem_nil, or_false] at hx
  rcases hx with rfl | rfl
  · exact p_law_8 hb ring_1 h
  · exact p_law_8 hb ring_2 h
theorem p_law_4 {Q : R → Prop} {X : Exc → Prop} {o0 o2 o3 o4 o5 o6 o7 : Option R} (h : Q (.d (.bool true))) : w_law_4 (dE Q) [o0, some (.hand L_hand), o2, o3, o4, o5, o6, o7] X := by
  (try simp only [wIzM, wWordV, wDc, wDn, wDGet, wDIn, wDNotIn, wDPut, wRetK, wFrzK, keyOf, R.dk.injEq, R.fk.injEq, wRev, neS, wSortLL, wSetIfO, ltDD, sortedDI, wIe, isDD, isnotDD, wPar2, sumDD, eqS, reprD, wV, wC, wNil, wCons, wTup, wLst, wOp, wUn, wCall, wT, wNot, wAnd, wOr, wB, wAndV, wOrV, wNotV, wIf, wIsi, wChain, wNo, wPart, wSl, wSet, wSetO, wTg, wPnil, wPcons, wPar, wNext, wSeq, wRet, wRetO, wRetN, wIfS, wBrk, wCnt, wDrop, wFrz, wApp, wExt, wSetIx, wAugIx, wAug, wRnil, wRcons, wFn, wRaise, wWord, wRetH, wSetIxH, wCount, wIndex, wIsE, wListRg1, wListRg2, wYes, wIs, wIz, wIl, wIt, wIr1, wIr2, wSlS, wPop, wAppPop, R.wk, R.st, R.ar, R.bl, R.no, R.sq, R.slot, setsR, startR, List.map_cons, List.map_nil, List.cons_append, List.nil_append, List.length_cons, List.length_nil, List.replicate, List.getElem?_cons_zero, List.getElem?_cons_succ, Option.some.injEq, exists_eq_left', exists_eq_left, R.d.injEq, R.own.injEq, R.fr.injEq, List.set_cons_zero, List.set_cons_succ, addD, subD, mulDD, fdivD, modD, ltD, leD, gtD, geD, eqD, neD, isND, isnotND, inDD, notInDD, ixD, negD, lenD, absD, intD, min2D, max2D, listD, tupleD, slD, Nat.reduceAdd, Nat.reduceSub, Nat.add_zero, Nat.zero_add, true_and, and_true, ite_true, ite_false, if_true, if_false, Bool.false_eq_true, reduceIte, Option.some_inj, Bool.true_eq_false, tgW, tgWs, wipe3, List.set_nil, w_law_4, w_law_5])
  refine ⟨by decide, by rw [sizeLine_eq]; omega, ?_⟩
  (try simp only [wIzM, wWordV, wDc, wDn, wDGet, wDIn, wDNotIn, wDPut, wRetK, wFrzK, keyOf, R.dk.injEq, R.fk.injEq, wRev, neS, wSortLL, wSetIfO, ltDD, sortedDI, wIe, isDD, isnotDD, wPar2, sumDD, eqS, reprD, wV, wC, wNil, wCons, wTup, wLst, wOp, wUn, wCall, wT, wNot, wAnd, wOr, wB, wAndV, wOrV, wNotV, wIf, wIsi, wChain, wNo, wPart, wSl, wSet, wSetO, wTg, wPnil, wPcons, wPar, wNext, wSeq, wRet, wRetO, wRetN, wIfS, wBrk, wCnt, wDrop, wFrz, wApp, wExt, wSetIx, wAugIx, wAug, wRnil, wRcons, wFn, wRaise, wWord, wRetH, wSetIxH, wCount, wIndex, wIsE, wListRg1, wListRg2, wYes, wIs, wIz, wIl, wIt, wIr1, wIr2, wSlS, wPop, wAppPop, R.wk, R.st, R.ar, R.bl, R.no, R.sq, R.slot, setsR, startR, List.map_cons, List.map_nil, List.cons_append, List.nil_append, List.length_cons, List.length_nil, List.replicate, List.getElem?_cons_zero, List.getElem?_cons_succ, Option.some.injEq, exists_eq_left', exists_eq_left, R.d.injEq, R.own.injEq, R.fr.injEq, List.set_cons_zero, List.set_cons_succ, addD, subD, mulDD, fdivD, modD, ltD, leD, gtD, geD, eqD, neD, isND, isnotND, inDD, notInDD, ixD, negD, lenD, absD, intD, min2D, max2D, listD, tupleD, slD, Nat.reduceAdd, Nat.reduceSub, Nat.add_zero, Nat.zero_add, true_and, and_true, ite_true, ite_false, if_true, if_false, Bool.false_eq_true, reduceIte, Option.some_inj, Bool.true_eq_false, tgW, tgWs, wipe3, List.set_nil, w_law_6])
  refine ⟨by rw [sizeLine_eq]; omega, ?_⟩
  refine any_some (by decide) (by decide) fun x hx => ?_
  refine p_law_7 ?_ h
  simp only [List.mem_cons, List.not_mem_nil, or_false] at hx
  rcases hx with rfl | rfl | rfl | rfl | rfl | rfl | rfl | rfl | rfl | rfl | rfl | rfl | rfl | rfl | rfl <;> decide +kernel
/-- with the rest left open -/
theorem p_law_3g {Q : R → Prop} {X : Exc → Prop} {W4 : WS} {o0 o2 o4 o5 o6 o7 : Option R} (h : W4 (dE Q) [o0, some (.hand L_hand), o2, some (.d toldD), o4, o5, o6, o7] X) :
    wSeq (wIfS (wNot (wT (wFn C_law_is (wRcons (wV 3) (wRcons (wLst (wCons R.st (wTup (wCons R.st (wC (.int 0)) (wCons R.st (wC (.int 0)) (wCons R.st (wC (.int 5)) (wCons R.st (wC (.int 3)) (wNil)))))) (wCons R.st (wC (.int 7)) (wCons R.st (wTup (wCons R.st (wC (.int 2)) (wCons R.st (wC (.int 0)) (wCons R.st (wC (.int 5)) (wCons R.st (wC (.int 6)) (wNil)))))) (wCons R.st (wTup (wCons R.st (wC (.int 2)) (wCons R.st (wC (.int 0)) (wCons R.st (wC (.int 0)) (wCons R.st (wC (.int 3)) (wNil)))))) (wNil)))))) (wRnil)))))) (wRet (wC (.bool false))) (wNext)) W4 (dE Q) [o0, some (.hand L_hand), o2, some (.d toldD), o4, o5, o6, o7] X := by
  (try simp only [wIzM, wWordV, wDc, wDn, wDGet, wDIn, wDNotIn, wDPut, wRetK, wFrzK, keyOf, R.dk.injEq, R.fk.injEq, wRev, neS, wSortLL, wSetIfO, ltDD, sortedDI, wIe, isDD, isnotDD, wPar2, sumDD, eqS, reprD, wV, wC, wNil, wCons, wTup, wLst, wOp, wUn, wCall, wT, wNot, wAnd, wOr, wB, wAndV, wOrV, wNotV, wIf, wIsi, wChain, wNo, wPart, wSl, wSet, wSetO, wTg, wPnil, wPcons, wPar, wNext, wSeq, wRet, wRetO, wRetN, wIfS, wBrk, wCnt, wDrop, wFrz, wApp, wExt, wSetIx, wAugIx, wAug, wRnil, wRcons, wFn, wRaise, wWord, wRetH, wSetIxH, wCount, wIndex, wIsE, wListRg1, wListRg2, wYes, wIs, wIz, wIl, wIt, wIr1, wIr2, wSlS, wPop, wAppPop, R.wk, R.st, R.ar, R.bl, R.no, R.sq, R.slot, setsR, startR, List.map_cons, List.map_nil, List.cons_append, List.nil_append, List.length_cons, List.length_nil, List.replicate, List.getElem?_cons_zero, List.getElem?_cons_succ, Option.some.injEq, exists_eq_left', exists_eq_left, R.d.injEq, R.own.injEq, R.fr.injEq, List.set_cons_zero, List.set_cons_succ, addD, subD, mulDD, fdivD, modD, ltD, leD, gtD, geD, eqD, neD, isND, isnotND, inDD, notInDD, ixD, negD, lenD, absD, intD, min2D, max2D, listD, tupleD, slD, Nat.reduceAdd, Nat.reduceSub, Nat.add_zero, Nat.zero_add, true_and, and_true, ite_true, ite_false, if_true, if_false, Bool.false_eq_true, reduceIte, Option.some_inj, Bool.true_eq_false, tgW, tgWs, wipe3, List.set_nil])
  refine is_0 ?_
  (try simp only [wIzM, wWordV, wDc, wDn, wDGet, wDIn, wDNotIn, wDPut, wRetK, wFrzK, keyOf, R.dk.injEq, R.fk.injEq, wRev, neS, wSortLL, wSetIfO, ltDD, sortedDI, wIe, isDD, isnotDD, wPar2, sumDD, eqS, reprD, wV, wC, wNil, wCons, wTup, wLst, wOp, wUn, wCall, wT, wNot, wAnd, wOr, wB, wAndV, wOrV, wNotV, wIf, wIsi, wChain, wNo, wPart, wSl, wSet, wSetO, wTg, wPnil, wPcons, wPar, wNext, wSeq, wRet, wRetO, wRetN, wIfS, wBrk, wCnt, wDrop, wFrz, wApp, wExt, wSetIx, wAugIx, wAug, wRnil, wRcons, wFn, wRaise, wWord, wRetH, wSetIxH, wCount, wIndex, wIsE, wListRg1, wListRg2, wYes, wIs, wIz, wIl, wIt, wIr1, wIr2, wSlS, wPop, wAppPop, R.wk, R.st, R.ar, R.bl, R.no, R.sq, R.slot, setsR, startR, List.map_cons, List.map_nil, List.cons_append, List.nil_append, List.length_cons, List.length_nil, List.replicate, List.getElem?_cons_zero, List.getElem?_cons_succ, Option.some.injEq, exists_eq_left', exists_eq_left, R.d.injEq, R.own.injEq, R.fr.injEq, List.set_cons_zero, List.set_cons_succ, addD, subD, mulDD, fdivD, modD, ltD, leD, gtD, geD, eqD, neD, isND, isnotND, inDD, notInDD, ixD, negD, lenD, absD, intD, min2D, max2D, listD, tupleD, slD, Nat.reduceAdd, Nat.reduceSub, Nat.add_zero, Nat.zero_add, true_and, and_true, ite_true, ite_false, if_true, if_false, Bool.false_eq_true, reduceIte, Option.some_inj, Bool.true_eq_false, tgW, tgWs, wipe3, List.set_nil, Bool.not_true])
  exact h
theorem p_law_3 {Q : R → Prop} {X : Exc → Prop} {o0 o2 o4 o5 o6 o7 : Option R} (h : Q (.d (.bool true))) : w_law_3 (dE Q) [o0, some (.hand L_hand), o2, some (.d toldD), o4, o5, o6, o7] X := p_law_3g (p_law_4 h)
theorem p_law_2 {Q : R → Prop} {X : Exc → Prop} {o0 o3 o4 o5 o6 o7 : Option R} (h : Q (.d (.bool true))) : w_law_2 (dE Q) [o0, some (.hand L_hand), some (.d ds0), o3, o4, o5, o6, o7] X := by
  (try simp only [wIzM, wWordV, wDc, wDn, wDGet, wDIn, wDNotIn, wDPut, wRetK, wFrzK, keyOf, R.dk.injEq, R.fk.injEq, wRev, neS, wSortLL, wSetIfO, ltDD, sortedDI, wIe, isDD, isnotDD, wPar2, sumDD, eqS, reprD, wV, wC, wNil, wCons, wTup, wLst, wOp, wUn, wCall, wT, wNot, wAnd, wOr, wB, wAndV, wOrV, wNotV, wIf, wIsi, wChain, wNo, wPart, wSl, wSet, wSetO, wTg, wPnil, wPcons, wPar, wNext, wSeq, wRet, wRetO, wRetN, wIfS, wBrk, wCnt, wDrop, wFrz, wApp, wExt, wSetIx, wAugIx, wAug, wRnil, wRcons, wFn, wRaise, wWord, wRetH, wSetIxH, wCount, wIndex, wIsE, wListRg1, wListRg2, wYes, wIs, wIz, wIl, wIt, wIr1, wIr2, wSlS, wPop, wAppPop, R.wk, R.st, R.ar, R.bl, R.no, R.sq, R.slot, setsR, startR, List.map_cons, List.map_nil, List.cons_append, List.nil_append, List.length_cons, List.length_nil, List.replicate, List.getElem?_cons_zero, List.getElem?_cons_succ, Option.some.injEq, exists_eq_left', exists_eq_left, R.d.injEq, R.own.injEq, R.fr.injEq, List.set_cons_zero, List.set_cons_succ, addD, subD, mulDD, fdivD, modD, ltD, leD, gtD, geD, eqD, neD, isND, isnotND, inDD, notInDD, ixD, negD, lenD, absD, intD, min2D, max2D, listD, tupleD, slD, Nat.reduceAdd, Nat.reduceSub, Nat.add_zero, Nat.zero_add, true_and, and_true, ite_true, ite_false, if_true, if_false, Bool.false_eq_true, reduceIte, Option.some_inj, Bool.true_eq_false, tgW, tgWs, wipe3, List.set_nil, w_law_2])
  refine begins_0 ?_
  (try simp only [wIzM, wWordV, wDc, wDn, wDGet, wDIn, wDNotIn, wDPut, wRetK, wFrzK, keyOf, R.dk.injEq, R.fk.injEq, wRev, neS, wSortLL, wSetIfO, ltDD, sortedDI, wIe, isDD, isnotDD, wPar2, sumDD, eqS, reprD, wV, wC, wNil, wCons, wTup, wLst, wOp, wUn, wCall, wT, wNot, wAnd, wOr, wB, wAndV, wOrV, wNotV, wIf, wIsi, wChain, wNo, wPart, wSl, wSet, wSetO, wTg, wPnil, wPcons, wPar, wNext, wSeq, wRet, wRetO, wRetN, wIfS, wBrk, wCnt, wDrop, wFrz, wApp, wExt, wSetIx, wAugIx, wAug, wRnil, wRcons, wFn, wRaise, wWord, wRetH, wSetIxH, wCount, wIndex, wIsE, wListRg1, wListRg2, wYes, wIs, wIz, wIl, wIt, wIr1, wIr2, wSlS, wPop, wAppPop, R.wk, R.st, R.ar, R.bl, R.no, R.sq, R.slot, setsR, startR, List.map_cons, List.map_nil, List.cons_append, List.nil_append, List.length_cons, List.length_nil, List.replicate, List.getElem?_cons_zero, List.getElem?_cons_succ, Option.some.injEq, exists_eq_left', exists_eq_left, R.d.injEq, R.own.injEq, R.fr.injEq, List.set_cons_zero, List.set_cons_succ, addD, subD, mulDD, fdivD, modD, ltD, leD, gtD, geD, eqD, neD, isND, isnotND, inDD, notInDD, ixD, negD, lenD, absD, intD, min2D, max2D, listD, tupleD, slD, Nat.reduceAdd, Nat.reduceSub, Nat.add_zero, Nat.zero_add, true_and, and_true, ite_true, ite_false, if_true, if_false, Bool.false_eq_true, reduceIte, Option.some_inj, Bool.true_eq_false, tgW, tgWs, wipe3, List.set_nil])
  refine least_0 ?_
  (try simp only [wIzM, wWordV, wDc, wDn, wDGet, wDIn, wDNotIn, wDPut, wRetK, wFrzK, keyOf, R.dk.injEq, R.fk.injEq, wRev, neS, wSortLL, wSetIfO, ltDD, sortedDI, wIe, isDD, isnotDD, wPar2, sumDD, eqS, reprD, wV, wC, wNil, wCons, wTup, wLst, wOp, wUn, wCall, wT, wNot, wAnd, wOr, wB, wAndV, wOrV, wNotV, wIf, wIsi, wChain, wNo, wPart, wSl, wSet, wSetO, wTg, wPnil, wPcons, wPar, wNext, wSeq, wRet, wRetO, wRetN, wIfS, wBrk, wCnt, wDrop, wFrz, wApp, wExt, wSetIx, wAugIx, wAug, wRnil, wRcons, wFn, wRaise, wWord, wRetH, wSetIxH, wCount, wIndex, wIsE, wListRg1, wListRg2, wYes, wIs, wIz, wIl, wIt, wIr1, wIr2, wSlS, wPop, wAppPop, R.wk, R.st, R.ar, R.bl, R.no, R.sq, R.slot, setsR, startR, List.map_cons, List.map_nil, List.cons_append, List.nil_append, List.length_cons, List.length_nil, List.replicate, List.getElem?_cons_zero, List.getElem?_cons_succ, Option.some.injEq, exists_eq_left', exists_eq_left, R.d.injEq, R.own.injEq, R.fr.injEq, List.set_cons_zero, List.set_cons_succ, addD, subD, mulDD, fdivD, modD, ltD, leD, gtD, geD, eqD, neD, isND, isnotND, inDD, notInDD, ixD, negD, lenD, absD, intD, min2D, max2D, listD, tupleD, slD, Nat.reduceAdd, Nat.reduceSub, Nat.add_zero, Nat.zero_add, true_and, and_true, ite_true, ite_false, if_true, if_false, Bool.false_eq_true, reduceIte, Option.some_inj, Bool.true_eq_false, tgW, tgWs, wipe3, List.set_nil])
  refine latest_0 ?_
  (try simp only [wIzM, wWordV, wDc, wDn, wDGet, wDIn, wDNotIn, wDPut, wRetK, wFrzK, keyOf, R.dk.injEq, R.fk.injEq, wRev, neS, wSortLL, wSetIfO, ltDD, sortedDI, wIe, isDD, isnotDD, wPar2, sumDD, eqS, reprD, wV, wC, wNil, wCons, wTup, wLst, wOp, wUn, wCall, wT, wNot, wAnd, wOr, wB, wAndV, wOrV, wNotV, wIf, wIsi, wChain, wNo, wPart, wSl, wSet, wSetO, wTg, wPnil, wPcons, wPar, wNext, wSeq, wRet, wRetO, wRetN, wIfS, wBrk, wCnt, wDrop, wFrz, wApp, wExt, wSetIx, wAugIx, wAug, wRnil, wRcons, wFn, wRaise, wWord, wRetH, wSetIxH, wCount, wIndex, wIsE, wListRg1, wListRg2, wYes, wIs, wIz, wIl, wIt, wIr1, wIr2, wSlS, wPop, wAppPop, R.wk, R.st, R.ar, R.bl, R.no, R.sq, R.slot, setsR, startR, List.map_cons, List.map_nil, List.cons_append, List.nil_append, List.length_cons, List.length_nil, List.replicate, List.getElem?_cons_zero, List.getElem?_cons_succ, Option.some.injEq, exists_eq_left', exists_eq_left, R.d.injEq, R.own.injEq, R.fr.injEq, List.set_cons_zero, List.set_cons_succ, addD, subD, mulDD, fdivD, modD, ltD, leD, gtD, geD, eqD, neD, isND, isnotND, inDD, notInDD, ixD, negD, lenD, absD, intD, min2D, max2D, listD, tupleD, slD, Nat.reduceAdd, Nat.reduceSub, Nat.add_zero, Nat.zero_add, true_and, and_true, ite_true, ite_false, if_true, if_false, Bool.false_eq_true, reduceIte, Option.some_inj, Bool.true_eq_false, tgW, tgWs, wipe3, List.set_nil])
  refine slack_0 ?_
  (try simp only [wIzM, wWordV, wDc, wDn, wDGet, wDIn, wDNotIn, wDPut, wRetK, wFrzK, keyOf, R.dk.injEq, R.fk.injEq, wRev, neS, wSortLL, wSetIfO, ltDD, sortedDI, wIe, isDD, isnotDD, wPar2, sumDD, eqS, reprD, wV, wC, wNil, wCons, wTup, wLst, wOp, wUn, wCall, wT, wNot, wAnd, wOr, wB, wAndV, wOrV, wNotV, wIf, wIsi, wChain, wNo, wPart, wSl, wSet, wSetO, wTg, wPnil, wPcons, wPar, wNext, wSeq, wRet, wRetO, wRetN, wIfS, wBrk, wCnt, wDrop, wFrz, wApp, wExt, wSetIx, wAugIx, wAug, wRnil, wRcons, wFn, wRaise, wWord, wRetH, wSetIxH, wCount, wIndex, wIsE, wListRg1, wListRg2, wYes, wIs, wIz, wIl, wIt, wIr1, wIr2, wSlS, wPop, wAppPop, R.wk, R.st, R.ar, R.bl, R.no, R.sq, R.slot, setsR, startR, List.map_cons, List.map_nil, List.cons_append, List.nil_append, List.length_cons, List.length_nil, List.replicate, List.getElem?_cons_zero, List.getElem?_cons_succ, Option.some.injEq, exists_eq_left', exists_eq_left, R.d.injEq, R.own.injEq, R.fr.injEq, List.set_cons_zero, List.set_cons_succ, addD, subD, mulDD, fdivD, modD, ltD, leD, gtD, geD, eqD, neD, isND, isnotND, inDD, notInDD, ixD, negD, lenD, absD, intD, min2D, max2D, listD, tupleD, slD, Nat.reduceAdd, Nat.reduceSub, Nat.add_zero, Nat.zero_add, true_and, and_true, ite_true, ite_false, if_true, if_false, Bool.false_eq_true, reduceIte, Option.some_inj, Bool.true_eq_false, tgW, tgWs, wipe3, List.set_nil])
  exact p_law_3 h
theorem p_law : ∀ rs Q X, C_law rs Q X → w_law ⟨fun _ => Q (.d .none), Q, fun _ => False, fun _ => False⟩ (startR N_law rs) X := by
  rintro rs Q X ⟨ns, rfl, hn, h⟩
  (try simp only [wIzM, wWordV, wDc, wDn, wDGet, wDIn, wDNotIn, wDPut, wRetK, wFrzK, keyOf, R.dk.injEq, R.fk.injEq, wRev, neS, wSortLL, wSetIfO, ltDD, sortedDI, wIe, isDD, isnotDD, wPar2, sumDD, eqS, reprD, wV, wC, wNil, wCons, wTup, wLst, wOp, wUn, wCall, wT, wNot, wAnd, wOr, wB, wAndV, wOrV, wNotV, wIf, wIsi, wChain, wNo, wPart, wSl, wSet, wSetO, wTg, wPnil, wPcons, wPar, wNext, wSeq, wRet, wRetO, wRetN, wIfS, wBrk, wCnt, wDrop, wFrz, wApp, wExt, wSetIx, wAugIx, wAug, wRnil, wRcons, wFn, wRaise, wWord, wRetH, wSetIxH, wCount, wIndex, wIsE, wListRg1, wListRg2, wYes, wIs, wIz, wIl, wIt, wIr1, wIr2, wSlS, wPop, wAppPop, R.wk, R.st, R.ar, R.bl, R.no, R.sq, R.slot, setsR, startR, List.map_cons, List.map_nil, List.cons_append, List.nil_append, List.length_cons, List.length_nil, List.replicate, List.getElem?_cons_zero, List.getElem?_cons_succ, Option.some.injEq, exists_eq_left', exists_eq_left, R.d.injEq, R.own.injEq, R.fr.injEq, List.set_cons_zero, List.set_cons_succ, addD, subD, mulDD, fdivD, modD, ltD, leD, gtD, geD, eqD, neD, isND, isnotND, inDD, notInDD, ixD, negD, lenD, absD, intD, min2D, max2D, listD, tupleD, slD, Nat.reduceAdd, Nat.reduceSub, Nat.add_zero, Nat.zero_add, true_and, and_true, ite_true, ite_false, if_true, if_false, Bool.false_eq_true, reduceIte, Option.some_inj, Bool.true_eq_false, tgW, tgWs, wipe3, List.set_nil, w_law, C_law_hand, C_hand])
  refine ⟨ns, rfl, hn, ?_⟩
  (try simp only [wIzM, wWordV, wDc, wDn, wDGet, wDIn, wDNotIn, wDPut, wRetK, wFrzK, keyOf, R.dk.injEq, R.fk.injEq, wRev, neS, wSortLL, wSetIfO, ltDD, sortedDI, wIe, isDD, isnotDD, wPar2, sumDD, eqS, reprD, wV, wC, wNil, wCons, wTup, wLst, wOp, wUn, wCall, wT, wNot, wAnd, wOr, wB, wAndV, wOrV, wNotV, wIf, wIsi, wChain, wNo, wPart, wSl, wSet, wSetO, wTg, wPnil, wPcons, wPar, wNext, wSeq, wRet, wRetO, wRetN, wIfS, wBrk, wCnt, wDrop, wFrz, wApp, wExt, wSetIx, wAugIx, wAug, wRnil, wRcons, wFn, wRaise, wWord, wRetH, wSetIxH, wCount, wIndex, wIsE, wListRg1, wListRg2, wYes, wIs, wIz, wIl, wIt, wIr1, wIr2, wSlS, wPop, wAppPop, R.wk, R.st, R.ar, R.bl, R.no, R.sq, R.slot, setsR, startR, List.map_cons, List.map_nil, List.cons_append, List.nil_append, List.length_cons, List.length_nil, List.replicate, List.getElem?_cons_zero, List.getElem?_cons_succ, Option.some.injEq, exists_eq_left', exists_eq_left, R.d.injEq, R.own.injEq, R.fr.injEq, List.set_cons_zero, List.set_cons_succ, addD, subD, mulDD, fdivD, modD, ltD, leD, gtD, geD, eqD, neD, isND, isnotND, inDD, notInDD, ixD, negD, lenD, absD, intD, min2D, max2D, listD, tupleD, slD, Nat.reduceAdd, Nat.reduceSub, Nat.add_zero, Nat.zero_add, true_and, and_true, ite_true, ite_false, if_true, if_false, Bool.false_eq_true, reduceIte, Option.some_inj, Bool.true_eq_false, tgW, tgWs, wipe3, List.set_nil, w_law_1])
  exact p_law_2 h
theorem fx_law (D : Txt K mg base T) : ∃ (f : Addr) (oc : Value) (od : Option Addr) (kV doc pm : Value) (an : Option Addr) (cdv ct : Value) (osl : Array (Option Value)), mg "law" = some (.ref f) ∧ K.lookup f = some ⟨oc, od, .func (PySem.W.fnOf "law" "law" (defArgs s_law) (defBody s_law) (defScope s_law) .none kV doc pm an cdv ct), osl⟩ ∧ PySem.W.keepIn K (.ref f) = true ∧
    FnG false P w K mg base 12 f (PySem.W.fnOf "law" "law" (defArgs s_law) (defBody s_law) (defScope s_law) .none kV doc pm an cdv ct) ["script"] (spC ⟨K, mg, T⟩ C_law) :=
  fnx_of (wb := w_law) D.d_law sc_law bi_law l_law (fun f cdv A outer s H E hp hr hgd => ess_cons (es_set (i := 1) sc_law.nd rfl (by first | exact Or.inl rfl | exact Or.inr rfl) (ev_fnC (ok_law_hand D) hr (by decide) (fun h => by cases h) rfl pass_cx (er_cons (ev_var (pv 0)) (er_nil)))) (ess_cons (es_set (i := 2) sc_law.nd rfl (by first | exact Or.inl rfl | exact Or.inr rfl) (ev_tup (el_cons selS (ev_tup (el_cons selS (ev_int) (el_cons selS (ev_tup (el_nil)) (el_nil)))) (el_cons selS (ev_tup (el_cons selS (ev_int) (el_cons selS (ev_tup (el_nil)) (el_nil)))) (el_cons selS (ev_tup (el_cons selS (ev_int) (el_cons selS (ev_tup (el_cons selS (ev_int) (el_cons selS (ev_int) (el_nil)))) (el_nil)))) (el_cons selS (ev_tup (el_cons selS (ev_int) (el_cons selS (ev_tup (el_cons selS (ev_int) (el_nil))) (el_nil)))) (el_nil))))))) (ess_cons (es_set (i := 3) sc_law.nd rfl (by first | exact Or.inl rfl | exact Or.inr rfl) (ev_lst (el_cons selS (ev_fnC (ok_begins D) hr (by decide) (fun h => by cases h) rfl pass_cx (er_cons (ev_var (pv 2)) (er_nil))) (el_cons selS (ev_fnC (ok_least_minutes D) hr (by decide) (fun h => by cases h) rfl pass_cx (er_cons (ev_var (pv 2)) (er_nil))) (el_cons selS (ev_fnC (ok_latest_begins D) hr (by decide) (fun h => by cases h) rfl pass_cx (er_cons (ev_var (pv 2)) (er_nil))) (el_cons selS (ev_fnC (ok_slack D) hr (by decide) (fun h => by cases h) rfl pass_cx (er_cons (ev_var (pv 2)) (er_nil))) (el_nil))))))) (ess_cons (es_if (et_not (et_val (ev_fnC (ok_law_is D) hr (by decide) (fun h => by cases h) rfl pass_cx (er_cons (ev_var (pv 3)) (er_cons (ev_lst (el_cons selS (ev_tup (el_cons selS (ev_int) (el_cons selS (ev_int) (el_cons selS (ev_int) (el_cons selS (ev_int) (el_nil)))))) (el_cons selS (ev_int) (el_cons selS (ev_tup (el_cons selS (ev_int) (el_cons selS (ev_int) (el_cons selS (ev_int) (el_cons selS (ev_int) (el_nil)))))) (el_cons selS (ev_tup (el_cons selS (ev_int) (el_cons selS (ev_int) (el_cons selS (ev_int) (el_cons selS (ev_int) (el_nil)))))) (el_nil)))))) (er_nil)))))) (ess_one (es_ret (ev_bl))) (ess_nil)) (ess_cons (es_set (i := 4) sc_law.nd rfl (by first | exact Or.inl rfl | exact Or.inr rfl) (ev_lst (el_cons selS (ev_non) (el_cons selS (ev_tup (el_nil)) (el_cons selS (ev_lst (el_cons selS (ev_tup (el_cons selS (ev_int) (el_cons selS (ev_tup (el_nil)) (el_nil)))) (el_nil))) (el_cons selS (ev_tup (el_cons selS (ev_tup (el_cons selS (ev_int) (el_cons selS (ev_tup (el_nil)) (el_nil)))) (el_nil))) (el_cons selS (ev_tup (el_cons selS (ev_tup (el_cons selS (ev_int) (el_cons selS (ev_tup (el_nil)) (el_nil)))) (el_nil))) (el_cons selS (ev_tup (el_cons selS (ev_tup (el_cons selS (ev_int) (el_cons selS (ev_tup (el_cons selS (ev_int) (el_nil))) (el_nil)))) (el_nil))) (el_cons selS (ev_tup (el_cons selS (ev_tup (el_cons selS (ev_int) (el_cons selS (ev_tup (el_cons selS (ev_int) (el_nil))) (el_nil)))) (el_nil))) (el_cons selS (ev_tup (el_cons selS (ev_tup (el_cons selS (ev_int) (el_cons selS (ev_lst (el_nil)) (el_nil)))) (el_nil))) (el_cons selS (ev_str) (el_cons selS (ev_int) (el_nil))))))))))))) (ess_cons (es_set (i := 4) sc_law.nd rfl (by first | exact Or.inl rfl | exact Or.inr rfl) (ev_op op_addD (ev_var (pv 4)) (ev_lst (el_cons selS (ev_tup (el_cons selS (ev_tup (el_cons selS (ev_bl) (el_cons selS (ev_tup (el_nil)) (el_nil)))) (el_nil))) (el_cons selS (ev_tup (el_cons selS (ev_tup (el_cons selS (ev_int) (el_nil))) (el_nil))) (el_cons selS (ev_op op_mulDD (ev_tup (el_cons selS (ev_tup (el_cons selS (ev_int) (el_cons selS (ev_tup (el_nil)) (el_nil)))) (el_nil))) (ev_int)) (el_cons selS (ev_tup (el_cons selS (ev_tup (el_cons selS (ev_int) (el_cons selS (ev_tup (el_cons selS (ev_int) (el_cons selS (ev_int) (el_nil)))) (el_nil)))) (el_cons selS (ev_tup (el_cons selS (ev_int) (el_cons selS (ev_tup (el_nil)) (el_nil)))) (el_cons selS (ev_tup (el_cons selS (ev_int) (el_cons selS (ev_tup (el_nil)) (el_nil)))) (el_nil))))) (el_nil)))))))) (ess_cons (es_set (i := 4) sc_law.nd rfl (by first | exact Or.inl rfl | exact Or.inr rfl) (ev_fnC (ok_law_any D) hr (by decide) (fun h => by cases h) rfl pass_cx (er_cons (ev_var (pv 1)) (er_cons (ev_op op_addD (ev_var (pv 4)) (ev_lst (el_cons selS (ev_tup (el_cons selS (ev_tup (el_cons selS (ev_int) (el_cons selS (ev_tup (el_cons selS (ev_int) (el_cons selS (ev_int) (el_nil)))) (el_nil)))) (el_cons selS (ev_tup (el_cons selS (ev_int) (el_cons selS (ev_tup (el_nil)) (el_nil)))) (el_nil)))) (el_nil)))) (er_nil))))) (ess_cons (es_set (i := 5) sc_law.nd rfl (by first | exact Or.inl rfl | exact Or.inr rfl) (ev_fnC (ok_law_any D) hr (by decide) (fun h => by cases h) rfl pass_cx (er_cons (ev_var (pv 1)) (er_cons (ev_lst (el_cons selS (ev_tup (el_cons selS (ev_tup (el_cons selS (ev_int) (el_cons selS (ev_tup (el_cons selS (ev_int) (el_nil))) (el_nil)))) (el_cons selS (ev_tup (el_cons selS (ev_int) (el_cons selS (ev_tup (el_cons selS (ev_int) (el_nil))) (el_nil)))) (el_nil)))) (el_cons selS (ev_tup (el_cons selS (ev_tup (el_cons selS (ev_int) (el_cons selS (ev_tup (el_nil)) (el_nil)))) (el_cons selS (ev_tup (el_cons selS (ev_int) (el_cons selS (ev_tup (el_cons selS (ev_int) (el_nil))) (el_nil)))) (el_cons selS (ev_tup (el_cons selS (ev_int) (el_cons selS (ev_tup (el_cons selS (ev_int) (el_nil))) (el_nil)))) (el_nil))))) (el_nil)))) (er_nil))))) (ess_cons (es_set (i := 6) sc_law.nd rfl (by first | exact Or.inl rfl | exact Or.inr rfl) (ev_lst (el_cons selS (ev_wordV D.d_law_word bi_law_word sc_law_word rfl va_law_word (gv_law_word D hr) rfl hp hr (lamS_by (sc := defScope s_law) (by decide +kernel)) rfl (fun _ _ _ _ _ => rfl) (fun A outer s H E' f c' hr => ev_fnC (ok_begins D) hr (by decide) (fun h => by cases h) rfl passLam (er_cons (ev_var (pv 4)) (er_nil)))) (el_cons selS (ev_wordVD (o := "of") D.d_law_word bi_law_word sc_law_word rfl va_law_word (gv_law_word D hr) rfl hp hr (lamD_by (N := N_law) (sc := defScope s_law) (by decide +kernel)) rfl rfl (fun _ _ _ _ _ _ _ _ => ⟨_, rfl, rfl⟩) (fun A outer s H E' f c' hr => ev_fnC (ok_least_minutes D) hr (by decide) (fun h => by cases h) rfl passLam (er_cons (ev_var (pv 4)) (er_nil)))) (el_nil))))) (ess_cons (es_set (i := 6) sc_law.nd rfl (by first | exact Or.inl rfl | exact Or.inr rfl) (ev_op op_addD (ev_var (pv 6)) (ev_lst (el_cons selS (ev_wordV D.d_law_word bi_law_word sc_law_word rfl va_law_word (gv_law_word D hr) rfl hp hr (lamS_by (sc := defScope s_law) (by decide +kernel)) rfl (fun _ _ _ _ _ => rfl) (fun A outer s H E' f c' hr => ev_fnC (ok_latest_begins D) hr (by decide) (fun h => by cases h) rfl passLam (er_cons (ev_var (pv 5)) (er_nil)))) (el_cons selS (ev_wordVD (o := "of") D.d_law_word bi_law_word sc_law_word rfl va_law_word (gv_law_word D hr) rfl hp hr (lamD_by (N := N_law) (sc := defScope s_law) (by decide +kernel)) rfl rfl (fun _ _ _ _ _ _ _ _ => ⟨_, rfl, rfl⟩) (fun A outer s H E' f c' hr => ev_fnC (ok_slack D) hr (by decide) (fun h => by cases h) rfl passLam (er_cons (ev_var (pv 5)) (er_nil)))) (el_nil)))))) (ess_cons (es_set (i := 6) sc_law.nd rfl (by first | exact Or.inl rfl | exact Or.inr rfl) (ev_op op_addD (ev_var (pv 6)) (ev_lst (el_cons selS (ev_wordV D.d_law_word bi_law_word sc_law_word rfl va_law_word (gv_law_word D hr) rfl hp hr (lamS_by (sc := defScope s_law) (by decide +kernel)) rfl (fun _ _ _ _ _ => rfl) (fun A outer s H E' f c' hr => ev_fnC (ok_begins D) hr (by decide) (fun h => by cases h) rfl passLam (er_cons (ev_var (pv 5)) (er_nil)))) (el_cons selS (ev_wordVD (o := "of") D.d_law_word bi_law_word sc_law_word rfl va_law_word (gv_law_word D hr) rfl hp hr (lamD_by (N := N_law) (sc := defScope s_law) (by decide +kernel)) rfl rfl (fun _ _ _ _ _ _ _ _ => ⟨_, rfl, rfl⟩) (fun A outer s H E' f c' hr => ev_fnC (ok_least_minutes D) hr (by decide) (fun h => by cases h) rfl passLam (er_cons (ev_var (pv 5)) (er_nil)))) (el_nil)))))) (ess_one (es_ret (ev_and (ev_cmp (op_eqT (u64 hr)) (ev_var (pv 6)) (ev_op op_addD (ev_op op_mulDD (ev_lst (el_cons selS (ev_str) (el_nil))) (ev_int)) (ev_op op_mulDD (ev_lst (el_cons selS (ev_str) (el_nil))) (ev_int))) (nomark _)) (ev_one (ev_callB (cr_allD rfl) rfl D.n_all bb_all (el_cons selW (ev_lc (own := [("turn", 7)]) (g := .one 7) rfl sc_law.nd (ei_rg1 rfl D.n_range (ev_int)) (blkOk_by (N := N_law) (sc := defScope s_law) (by decide +kernel)) (by decide) (fun _ _ _ _ _ => pg_name (i := 7) sc_law.nd rfl (Or.inl rfl)) (fun _ _ _ _ _ => eb_yes) (fun _ _ _ _ _ => ev_fnC (ok_law_case_right D) hr (by decide) (fun h => by cases h) rfl passL (er_cons (ev_var (pv 1)) (er_nil)))) (el_nil)))))))))))))))))) p_law
/-! ## The head -/
abbrev dd (x : Str) (i : Nat) : He.DefD := ⟨(x, none), x, x, defArgs (top i), defBody (top i), defScope (top i), [], []⟩
def fa0 : List He.Fa := [.glo "is_integer", .glo "is_within", .glo "is_sized", .glo "are_rising", .glo "is_lot", .glo "is_step", .glo "is_stepped", .glo "check_dish", .glo "raw_order", .glo "check_ordered", .glo "raw_begins", .glo "raw_least", .glo "raw_latest", .glo "begins", .glo "least_minutes", .glo "latest_begins", .glo "slack", .glo "_law_hand", .glo "_law_draw", .glo "_law_any", .glo "_law_is", .glo "_law_word", .glo "_law_dish", .glo "_law_begins", .glo "_law_end", .glo "_law_latest", .glo "_law_case_right", .glo "law", .glo "KitchenError", .glo "NoDish"]
def fa1 : List He.Fa := [.glo "NoOrder", .free "ValueError", .free "abs", .free "all", .free "bool", .free "enumerate", .free "int", .free "isinstance", .free "len", .free "list", .free "max", .free "min", .free "range", .free "sorted", .free "str", .free "tuple", .free "zip", .int "MOST_STEPS" 10, .int "MOST_MINUTES" 600, .exc "NoDish", .exc "NoOrder"]
def fa : List He.Fa := fa0 ++ fa1
def fn0 : List He.DefD := [dd "is_integer" 1, dd "is_within" 2, dd "is_sized" 3, dd "are_rising" 4, dd "is_lot" 5, dd "is_step" 13, dd "is_stepped" 14, dd "check_dish" 15, dd "raw_order" 16, dd "check_ordered" 17, dd "raw_begins" 18, dd "raw_least" 19, dd "raw_latest" 20, dd "begins" 21, dd "least_minutes" 22, dd "latest_begins" 23, dd "slack" 24, dd "_law_hand" 26, dd "_law_draw" 27, dd "_law_any" 28, dd "_law_is" 29, dd "_law_word" 30, dd "_law_dish" 31, dd "_law_begins" 32, dd "_law_end" 33, dd "_law_latest" 34, dd "_law_case_right" 35, dd "law" 36]
def fn : List He.DefD := fn0
def tf : List He.Defn := [("law", none)]
def tbs (K : PySem.W.Frag) : List Bool := []
def ex0 (K : PySem.W.Frag) : Bool := (errL.all fun x => errB K "KitchenError" (clsL.map fun n => (n, isa x n)) x) && tf.all fun p => tf.all fun q => !decide ((He.cT K p).2 = (He.cT K q).2) || decide (p.1 = q.1)
def ex (K : PySem.W.Frag) : Bool := ex0 K && (tbs K).all id
abbrev R : PySem.W.OpenRow := PySem.W.OpenLaw.row PySem.Challenge.rw_kitchenhall_k23_whole_when_steps_begin_a
abbrev hk : PySem.W.Hook := He.hookX 4 fa fn [] tf ex
def ob (s : PySem.W.SharedT) : He.AlX := He.obsX 4 fa fn [] tf ex (HandSHeadRun.getT s)
theorem ob_eq (s : PySem.W.SharedT) : ob s = hk.obs s.abs := He.obsX_eq (HandSHeadRun.getT_eq s)
def loose0 : List Str := ["is_integer", "is_within", "is_sized", "are_rising", "is_lot", "is_step", "is_stepped", "check_dish", "raw_order", "check_ordered", "raw_begins", "raw_least", "raw_latest", "begins", "least_minutes", "latest_begins", "slack", "_law_hand", "_law_draw", "_law_any", "_law_is", "_law_word", "_law_dish", "_law_begins", "_law_end", "_law_latest", "_law_case_right", "KitchenError", "NoDish", "NoOrder"]
def loose1 : List Str := ["MOST_STEPS", "MOST_MINUTES"]
abbrev loose : List Str := loose0 ++ loose1
theorem run (w : World) : HandSHeadRun.RunEq R (PySem.W.view R.prog [36]) hk ob 3000 loose w := by
  intro os
  kernel_rfl
theorem errL_fa : ∀ x ∈ errL, He.Fa.glo x ∈ fa := by unfold errL fa; simp [fa0, fa1]
theorem clsL_fa : ∀ x ∈ clsL, He.Fa.glo x ∈ fa := by unfold clsL fa; simp [fa0, fa1]
theorem tf_none : ∀ p ∈ tf, p = (p.1, none) := by unfold tf; simp
theorem tf_same {K : PySem.W.Frag} {h : Heap} {w : World} (c : He.SaysX fa fn [] tf ex w h K) : ∀ p ∈ tf, ∀ q ∈ tf, (He.cT K p).2 = (He.cT K q).2 → p.1 = q.1 := fun p hp q hq e => by
  have e0 := (Bool.and_eq_true_iff.mp (show (ex0 K && (tbs K).all id) = true from c.more)).1
  unfold ex0 at e0
  have z := List.all_eq_true.mp (List.all_eq_true.mp (Bool.and_eq_true_iff.mp e0).2 p hp) q hq
  rw [decide_eq_true e, Bool.not_true, Bool.false_or] at z
  exact of_decide_eq_true z
theorem lam_pc {K : PySem.W.Frag} {h : Heap} {mg : Str → Option Value} {w : World} (c : He.SaysX fa fn [] tf ex w h K) {base : Heap} (TB : ∀ q ∈ tf.map (He.cT K), TabB base mg q.1 q.2) (p : He.Defn) (hp : p ∈ tf) {fd : FuncData} :
    ∀ cdv oc od osl, K.lookup (He.fAd K (p.1, none)) = some ⟨oc, od, .func fd, osl⟩ → fd.code = cdv → PySem.W.codeIn K cdv p.1 = true → PcL mg base (tf.map fun p => ((He.cT K p).2, p.1 ++ ".<locals>." ++ "<lambda>")) (p.1 ++ ".<locals>." ++ "<lambda>") cdv := by
  intro cdv oc od osl hl hc hi
  obtain ⟨cc, e⟩ := He.codeIn_ref hi
  have hp2 : p = (p.1, none) := tf_none p hp
  have e2 : He.codeOf K p = cc := by
    rw [hp2]
    exact He.codeOf_eq hl (hc.trans e)
  refine ⟨cc, (He.cT K p).2, e, ?_, List.mem_map.mpr ⟨p, hp, rfl⟩, fun t ht et => ?_⟩
  · have z := TB (He.cT K p) (List.mem_map.mpr ⟨p, hp, rfl⟩)
    have e3 : (He.cT K p).1 = cc := e2
    rw [e3] at z
    exact z
  · obtain ⟨p2, hp2, rfl⟩ := List.mem_map.mp ht
    have e4 := tf_same c p2 hp2 p hp et
    show p2.1 ++ _ ++ _ = _
    rw [e4]
theorem txt {K : PySem.W.Frag} {h : Heap} {mg : Str → Option Value} {w : World} (X : K.In h) (G : h.Ns mainGlobals mg) (c : He.SaysX fa fn [] tf ex w h K) {base : Heap} (TB : ∀ q ∈ tf.map (He.cT K), TabB base mg q.1 q.2) : Txt K mg base (tf.map fun p => ((He.cT K p).2, p.1 ++ ".<locals>." ++ "<lambda>")) where
  d_is_integer := (c.t.d.def_ 0 (d := dd "is_integer" 1) rfl).elim fun fd FD => def_of X G FD (c.t.d.fact 0 (f := .glo "is_integer") rfl) (fun _ _ _ _ _ _ _ => trivial)
  d_is_within := (c.t.d.def_ 1 (d := dd "is_within" 2) rfl).elim fun fd FD => def_of X G FD (c.t.d.fact 1 (f := .glo "is_within") rfl) (fun _ _ _ _ _ _ _ => trivial)
  d_is_sized := (c.t.d.def_ 2 (d := dd "is_sized" 3) rfl).elim fun fd FD => def_of X G FD (c.t.d.fact 2 (f := .glo "is_sized") rfl) (fun _ _ _ _ _ _ _ => trivial)
  d_are_rising := (c.t.d.def_ 3 (d := dd "are_rising" 4) rfl).elim fun fd FD => def_of X G FD (c.t.d.fact 3 (f := .glo "are_rising") rfl) (fun _ _ _ _ _ _ _ => trivial)
  d_is_lot := (c.t.d.def_ 4 (d := dd "is_lot" 5) rfl).elim fun fd FD => def_of X G FD (c.t.d.fact 4 (f := .glo "is_lot") rfl) (fun _ _ _ _ _ _ _ => trivial)
  d_is_step := (c.t.d.def_ 5 (d := dd "is_step" 13) rfl).elim fun fd FD => def_of X G FD (c.t.d.fact 5 (f := .glo "is_step") rfl) (fun _ _ _ _ _ _ _ => trivial)
  d_is_stepped := (c.t.d.def_ 6 (d := dd "is_stepped" 14) rfl).elim fun fd FD => def_of X G FD (c.t.d.fact 6 (f := .glo "is_stepped") rfl) (fun _ _ _ _ _ _ _ => trivial)
  d_check_dish := (c.t.d.def_ 7 (d := dd "check_dish" 15) rfl).elim fun fd FD => def_of X G FD (c.t.d.fact 7 (f := .glo "check_dish") rfl) (fun _ _ _ _ _ _ _ => trivial)
  d_raw_order := (c.t.d.def_ 8 (d := dd "raw_order" 16) rfl).elim fun fd FD => def_of X G FD (c.t.d.fact 8 (f := .glo "raw_order") rfl) (fun _ _ _ _ _ _ _ => trivial)
  d_check_ordered := (c.t.d.def_ 9 (d := dd "check_ordered" 17) rfl).elim fun fd FD => def_of X G FD (c.t.d.fact 9 (f := .glo "check_ordered") rfl) (fun _ _ _ _ _ _ _ => trivial)
  d_raw_begins := (c.t.d.def_ 10 (d := dd "raw_begins" 18) rfl).elim fun fd FD => def_of X G FD (c.t.d.fact 10 (f := .glo "raw_begins") rfl) (fun _ _ _ _ _ _ _ => trivial)
  d_raw_least := (c.t.d.def_ 11 (d := dd "raw_least" 19) rfl).elim fun fd FD => def_of X G FD (c.t.d.fact 11 (f := .glo "raw_least") rfl) (fun _ _ _ _ _ _ _ => trivial)
  d_raw_latest := (c.t.d.def_ 12 (d := dd "raw_latest" 20) rfl).elim fun fd FD => def_of X G FD (c.t.d.fact 12 (f := .glo "raw_latest") rfl) (fun _ _ _ _ _ _ _ => trivial)
  d_begins := (c.t.d.def_ 13 (d := dd "begins" 21) rfl).elim fun fd FD => def_of X G FD (c.t.d.fact 13 (f := .glo "begins") rfl) (fun _ _ _ _ _ _ _ => trivial)
  d_least_minutes := (c.t.d.def_ 14 (d := dd "least_minutes" 22) rfl).elim fun fd FD => def_of X G FD (c.t.d.fact 14 (f := .glo "least_minutes") rfl) (fun _ _ _ _ _ _ _ => trivial)
  d_latest_begins := (c.t.d.def_ 15 (d := dd "latest_begins" 23) rfl).elim fun fd FD => def_of X G FD (c.t.d.fact 15 (f := .glo "latest_begins") rfl) (fun _ _ _ _ _ _ _ => trivial)
  d_slack := (c.t.d.def_ 16 (d := dd "slack" 24) rfl).elim fun fd FD => def_of X G FD (c.t.d.fact 16 (f := .glo "slack") rfl) (fun _ _ _ _ _ _ _ => trivial)
  d_law_hand := (c.t.d.def_ 17 (d := dd "_law_hand" 26) rfl).elim fun fd FD => def_of X G FD (c.t.d.fact 17 (f := .glo "_law_hand") rfl) (fun _ _ _ _ _ _ _ => trivial)
  d_law_draw := (c.t.d.def_ 18 (d := dd "_law_draw" 27) rfl).elim fun fd FD => def_of X G FD (c.t.d.fact 18 (f := .glo "_law_draw") rfl) (fun _ _ _ _ _ _ _ => trivial)
  d_law_any := (c.t.d.def_ 19 (d := dd "_law_any" 28) rfl).elim fun fd FD => def_of X G FD (c.t.d.fact 19 (f := .glo "_law_any") rfl) (fun _ _ _ _ _ _ _ => trivial)
  d_law_is := (c.t.d.def_ 20 (d := dd "_law_is" 29) rfl).elim fun fd FD => def_of X G FD (c.t.d.fact 20 (f := .glo "_law_is") rfl) (fun _ _ _ _ _ _ _ => trivial)
  d_law_word := (c.t.d.def_ 21 (d := dd "_law_word" 30) rfl).elim fun fd FD => def_of X G FD (c.t.d.fact 21 (f := .glo "_law_word") rfl) (fun _ _ _ _ _ _ _ => trivial)
  d_law_dish := (c.t.d.def_ 22 (d := dd "_law_dish" 31) rfl).elim fun fd FD => def_of X G FD (c.t.d.fact 22 (f := .glo "_law_dish") rfl) (fun _ _ _ _ _ _ _ => trivial)
  d_law_begins := (c.t.d.def_ 23 (d := dd "_law_begins" 32) rfl).elim fun fd FD => def_of X G FD (c.t.d.fact 23 (f := .glo "_law_begins") rfl) (fun _ _ _ _ _ _ _ => trivial)
  d_law_end := (c.t.d.def_ 24 (d := dd "_law_end" 33) rfl).elim fun fd FD => def_of X G FD (c.t.d.fact 24 (f := .glo "_law_end") rfl) (fun _ _ _ _ _ _ _ => trivial)
  d_law_latest := (c.t.d.def_ 25 (d := dd "_law_latest" 34) rfl).elim fun fd FD => def_of X G FD (c.t.d.fact 25 (f := .glo "_law_latest") rfl) (fun _ _ _ _ _ _ _ => trivial)
  d_law_case_right := (c.t.d.def_ 26 (d := dd "_law_case_right" 35) rfl).elim fun fd FD => def_of X G FD (c.t.d.fact 26 (f := .glo "_law_case_right") rfl) (fun _ _ _ _ _ _ _ => trivial)
  d_law := (c.t.d.def_ 27 (d := dd "law" 36) rfl).elim fun fd FD => def_of X G FD (c.t.d.fact 27 (f := .glo "law") rfl) (lam_pc c TB ("law", none) (by decide))
  n_ValueError := He.free_ok X G (c.t.d.fact 31 (f := .free "ValueError") rfl)
  n_abs := He.free_ok X G (c.t.d.fact 32 (f := .free "abs") rfl)
  n_all := He.free_ok X G (c.t.d.fact 33 (f := .free "all") rfl)
  n_bool := He.free_ok X G (c.t.d.fact 34 (f := .free "bool") rfl)
  n_enumerate := He.free_ok X G (c.t.d.fact 35 (f := .free "enumerate") rfl)
  n_int := He.free_ok X G (c.t.d.fact 36 (f := .free "int") rfl)
  n_isinstance := He.free_ok X G (c.t.d.fact 37 (f := .free "isinstance") rfl)
  n_len := He.free_ok X G (c.t.d.fact 38 (f := .free "len") rfl)
  n_list := He.free_ok X G (c.t.d.fact 39 (f := .free "list") rfl)
  n_max := He.free_ok X G (c.t.d.fact 40 (f := .free "max") rfl)
  n_min := He.free_ok X G (c.t.d.fact 41 (f := .free "min") rfl)
  n_range := He.free_ok X G (c.t.d.fact 42 (f := .free "range") rfl)
  n_sorted := He.free_ok X G (c.t.d.fact 43 (f := .free "sorted") rfl)
  n_str := He.free_ok X G (c.t.d.fact 44 (f := .free "str") rfl)
  n_tuple := He.free_ok X G (c.t.d.fact 45 (f := .free "tuple") rfl)
  n_zip := He.free_ok X G (c.t.d.fact 46 (f := .free "zip") rfl)
  c_MOST_STEPS := He.int_ok X G (c.t.d.fact 47 (f := .int "MOST_STEPS" 10) rfl)
  c_MOST_MINUTES := He.int_ok X G (c.t.d.fact 48 (f := .int "MOST_MINUTES" 600) rfl)
  x_NoDish := exc_of X G (c.t.d.fact 29 (f := .glo "NoDish") rfl) (c.t.d.fact 49 (f := .exc "NoDish") rfl)
  x_NoOrder := exc_of X G (c.t.d.fact 30 (f := .glo "NoOrder") rfl) (c.t.d.fact 50 (f := .exc "NoOrder") rfl)
  k_KitchenError := ⟨_, He.glo_ok X G (c.t.d.fact 28 (f := .glo "KitchenError") rfl)⟩
  k_NoDish := ⟨_, He.glo_ok X G (c.t.d.fact 29 (f := .glo "NoDish") rfl)⟩
  k_NoOrder := ⟨_, He.glo_ok X G (c.t.d.fact 30 (f := .glo "NoOrder") rfl)⟩
  errs := fun x hx => err_of X G (c.t.d.facts (f := .glo x) (errL_fa x hx)) (c.t.d.fact 28 (f := .glo "KitchenError") rfl) (fun y hy => by
    obtain ⟨n, hn, rfl⟩ := List.mem_map.mp hy
    exact c.t.d.facts (f := .glo n) (clsL_fa n hn)) (by
    have e := (Bool.and_eq_true_iff.mp (show (ex0 K && (tbs K).all id) = true from c.more)).1
    unfold ex0 at e
    exact List.all_eq_true.mp (Bool.and_eq_true_iff.mp e).1 x hx)
theorem law_g {K : PySem.W.Frag} {h : Heap} {mg : Str → Option Value} {w : World} {f : Addr} (X : K.In h) (G : h.Ns mainGlobals mg) (hfa : mg "law" = some (.ref f)) (c : He.SaysX fa fn [] tf ex w h K) : LawG PySem.Challenge.rw_kitchenhall_k23_whole_when_steps_begin_a w K 12 63 "script" mg f h := by
  have KX := X
  refine ⟨?_⟩
  have ft : ∀ p ∈ tf, PySem.W.CodeHd h (He.cT K p).1 (He.cT K p).2 := fun p hp => PySem.W.codeHd_of_K X (c.hd p hp)
  obtain ⟨fd, FD⟩ := c.t.d.def_ 27 (d := dd "law" 36) rfl
  have e := hfa.symm.trans (He.glo_ok X G (c.t.d.fact 27 (f := .glo "law") rfl))
  cases e
  obtain ⟨oc, od, dV, kV, doc, pm, an, cdv, ct, osl, ef, l, hc, hd, _⟩ := FD.ex
  have hdV : dV = .none := by
    rcases hd with ⟨_, e2⟩ | ⟨e2, _⟩
    · exact e2
    · exact absurd rfl e2
  subst hdV
  refine ⟨fd, tf.map (He.cT K), tf.map fun p => ((He.cT K p).2, p.1 ++ ".<locals>." ++ "<lambda>"), C_law, fun q hq => ?_, fun q hq => ?_, fun q hq => ?_, fun s u => ?_, fun t ht => ?_, fun ns hn => ⟨ns, rfl, hn, rfl⟩, fun base inK nsG TB => ?_⟩
  · obtain ⟨p, hp, rfl⟩ := List.mem_map.mp hq
    exact c.empty p hp
  · obtain ⟨p, hp, rfl⟩ := List.mem_map.mp hq
    exact c.out p hp
  · obtain ⟨p, hp, rfl⟩ := List.mem_map.mp hq
    exact ft p hp
  · subst ef
    exact .of_eq (bi_law kV doc pm an cdv ct [u] rfl)
  · obtain ⟨p, hp, rfl⟩ := List.mem_map.mp ht
    exact ⟨_, List.mem_map.mpr ⟨p, hp, rfl⟩, rfl⟩
  · obtain ⟨f2, oc2, od2, kV2, doc2, pm2, an2, cdv2, ct2, osl2, hm2, l2, _, F2⟩ := fx_law (P := (PySem.Challenge.rw_kitchenhall_k23_whole_when_steps_begin_a).prog) (w := w) (txt X G c TB)
    have e3 := (He.glo_ok X G (c.t.d.fact 27 (f := .glo "law") rfl)).symm.trans hm2
    cases e3
    have l3 := l.symm.trans l2
    cases l3
    exact FnG.weak F2
end T3.K23
open PySem PySem.W PySem.Calls PyProof.Rows
theorem PySem.Challenge.cw_kitchenhall_k23_whole_when_steps_begin_a_holds : PySem.Challenge.rw_kitchenhall_k23_whole_when_steps_begin_a.Holds := by
  w_on; o_law
  refine HandSHeadRun.head_any (r := OpenLaw.row PySem.Challenge.rw_kitchenhall_k23_whole_when_steps_begin_a) (q := view (OpenLaw.row PySem.Challenge.rw_kitchenhall_k23_whole_when_steps_begin_a).prog [36]) (H := T3.K23.hk) (ob := T3.K23.ob) (M := 3000) (loose := T3.K23.loose) (d := HandSHeadRun.topDef (OpenLaw.row PySem.Challenge.rw_kitchenhall_k23_whole_when_steps_begin_a).prog 36) (kwd := []) T3.K23.ob_eq
    (by kernel_rfl) (fun s => by kernel_rfl) T3.K23.run (by kernel_rfl) (by kernel_rfl) (by kernel_rfl) (by rfl) (by first | assumption | decide +kernel) (by decide +kernel) ⟨rfl, rfl, rfl, rfl, rfl, by decide +kernel⟩ ?hw ?hc
  case hw => w_witness2
  case hc =>
    refine T3.walk_G (l := PySem.Challenge.rw_kitchenhall_k23_whole_when_steps_begin_a) (n := 63) (k := 12) (x := "script") rfl (by decide) (by kernel_rfl) ⟨rfl, by decide, by decide⟩ ?F
    intro w mg fa h Y G hmg0
    obtain ⟨K, KX, c⟩ := Y
    have hmg : mg ("law" : PySem.Str) = some (.ref fa) := by
      have e : (HandSHeadRun.topDef (OpenLaw.row PySem.Challenge.rw_kitchenhall_k23_whole_when_steps_begin_a).prog 36).name = ("law" : PySem.Str) := by kernel_rfl
      rw [← e]
      exact hmg0
    exact ⟨K, KX, T3.K23.law_g KX G hmg c⟩
