import PyProof.Rows.All
import Wide.All
import OpenK.AllK
import Wide.FinOn
import HandS.ForMost
import HandS.Deep
import HandS.Zip
import HandS.TupAny
import HandS.TupMul
import HandS.IsInst
import HandS.SetKeys
import HandS.Conv
import HandS.Style
import HandS.Wide
import HandS.SortInts
import KE.KDictKeyed
import KE.KeyNested
import HandS.Lambda
import KE.GoesEnum
import PyProof.Rows.SortShellAny
import PyProof.Rows.TupTab
import HandS.More
import HandS.TryOnly
import HandS.TupSets
import HandS.Strs
import KE.DatumOrd
import HandS.EndTab
import HandS.TryMany
import HandS.ExcCtx
import HandS.Hot
import HandS.HotCalls
import HandS.ExcIs
import HandS.ExcField
import KE.GoesComp
import PyProof.RulesMatch
import KE.KExcIs
import HandS.ForSpec
import PySem.Challenge.RW_wovenway_k13_whole_small_rows_by_words
set_option Elab.async false
set_option linter.all false
set_option maxRecDepth 100000
set_option maxHeartbeats 4000000
namespace Wv
open PySem L2

/-! ## data as trees, the ledger of what may change -/
inductive D where
  | non | bl (b : Bool) | int (i : Int) | str (x : Str) | tup (ds : List D) | lst (ds : List D) | ref (a : Addr)
inductive Cell where
  | lst (ds : List D)
  | dct (kvs : List (NestedKey × D))
  | ins (C : Addr) (fs : List (Str × D))
  | tab (q : Str)
abbrev Lg := Addr → Option Cell
def put (L : Lg) (p : Addr) (c : Cell) : Lg := fun b => if b = p then some c else L b
def del (L : Lg) (p : Addr) : Lg := fun b => if b = p then none else L b
theorem put_same {L : Lg} {p : Addr} {c : Cell} : put L p c p = some c := if_pos rfl
theorem put_ne {L : Lg} {p q : Addr} {c : Cell} (h : q ≠ p) : put L p c q = L q := if_neg h
theorem put_put {L : Lg} {p : Addr} {c d : Cell} : put (put L p c) p d = put L p d := by
  funext b; unfold put; split <;> rfl
theorem del_same {L : Lg} {p : Addr} : del L p p = none := if_pos rfl
theorem del_ne {L : Lg} {p q : Addr} (h : q ≠ p) : del L p q = L q := if_neg h
theorem del_put {L : Lg} {p : Addr} {c : Cell} (h : L p = none) : del (put L p c) p = L := by
  funext b; unfold del put; split
  · rename_i e; rw [e, h]
  · rfl
theorem put_none {L : Lg} {p q : Addr} {c : Cell} (h : put L p c q = none) : q ≠ p ∧ L q = none := by
  by_cases e : q = p
  · subst e; rw [put_same] at h; cases h
  · rw [put_ne e] at h; exact ⟨e, h⟩

/-- the world's fixed part; Z: what is hidden (a list that is being made) -/
structure Mo where
  P : Program
  w : World
  K : PySem.W.Frag
  Z : Addr → Prop
def Mo.z (M : Mo) (Z : Addr → Prop) : Mo := ⟨M.P, M.w, M.K, Z⟩
def Free (M : Mo) (L : Lg) (a : Addr) : Prop := L a = none ∧ ¬ M.Z a
section
variable {M : Mo}
/-- a list that is not in the ledger: tracked or the script's, or of the written part -/
def LRd (M : Mo) (L : Lg) (H : Hp) (a : Addr) (xs : List V) : Prop := (Free M L a ∧ Rd H a (.lst xs)) ∨
  ∃ (o : Obj) (its : Array Value) (n : Nat), M.K.lookup a = some o ∧ o.cls = .type "list" ∧ o.dict = none ∧ o.data = .seq its n ∧ its.size ≤ sizeLine ∧ Vals xs its.toList
theorem LRd.sq {L : Lg} {H : Hp} {a : Addr} {xs : List V} (h : LRd M L H a xs) : SqL M.K H a xs := by
  rcases h with h | h
  · exact .inl h.2
  · exact .inr h
mutual
/-- the value v stands for the data d -/
inductive Rep (M : Mo) (L : Lg) (H : Hp) : D → V → Prop
  | non : Rep M L H .non .non
  | bl (b : Bool) : Rep M L H (.bl b) (.bl b)
  | int (i : Int) : Rep M L H (.int i) (.int i)
  | str (x : Str) : Rep M L H (.str x) (.str x)
  | tup {ds : List D} {a : Addr} {xs : List V} : Free M L a → H a = some (.tup xs) → Reps M L H ds xs → Rep M L H (.tup ds) (.ref a)
  | lst {ds : List D} {a : Addr} {xs : List V} : LRd M L H a xs → Reps M L H ds xs → Rep M L H (.lst ds) (.ref a)
  | ref (a : Addr) : Rep M L H (.ref a) (.ref a)
inductive Reps (M : Mo) (L : Lg) (H : Hp) : List D → List V → Prop
  | nil : Reps M L H [] []
  | cons {d : D} {v : V} {ds : List D} {vs : List V} : Rep M L H d v → Reps M L H ds vs → Reps M L H (d :: ds) (v :: vs)
end
/-- what is not in the ledger stays -/
def Pers (L : Lg) (H : Hp) (L' : Lg) (H' : Hp) : Prop := ∀ a, L a = none → (∀ o, H a = some o → L' a = none ∧ H' a = some o)
theorem Pers.refl (L : Lg) (H : Hp) : Pers L H L H := fun _ h _ e => ⟨h, e⟩
theorem Pers.trans {L L1 L2 : Lg} {H H1 H2 : Hp} (p : Pers L H L1 H1) (q : Pers L1 H1 L2 H2) : Pers L H L2 H2 := fun a h o e => by
  obtain ⟨h1, e1⟩ := p a h o e
  exact q a h1 o e1
theorem Free.mono {L L' : Lg} {H H' : Hp} (p : Pers L H L' H') {a : Addr} {o : HO} (f : Free M L a) (e : H a = some o) : Free M L' a ∧ H' a = some o := ⟨⟨(p a f.1 o e).1, f.2⟩, (p a f.1 o e).2⟩
theorem LRd.mono {L L' : Lg} {H H' : Hp} (p : Pers L H L' H') {a : Addr} {xs : List V} (h : LRd M L H a xs) : LRd M L' H' a xs := by
  rcases h with ⟨h, h2⟩ | h
  · rcases h2 with e | ⟨o, e⟩
    · obtain ⟨x, y⟩ := h.mono p e
      exact .inl ⟨x, .inl y⟩
    · obtain ⟨x, y⟩ := h.mono p e
      exact .inl ⟨x, .inr ⟨o, y⟩⟩
  · exact .inr h
mutual
theorem Rep.mono {L L' : Lg} {H H' : Hp} (p : Pers L H L' H') : ∀ {d : D} {v : V}, Rep M L H d v → Rep M L' H' d v
  | _, _, .non => .non
  | _, _, .bl b => .bl b
  | _, _, .int i => .int i
  | _, _, .str x => .str x
  | _, _, .tup a b c => .tup (a.mono p b).1 (a.mono p b).2 (Reps.mono p c)
  | _, _, .lst a c => .lst (a.mono p) (Reps.mono p c)
  | _, _, .ref a => .ref a
theorem Reps.mono {L L' : Lg} {H H' : Hp} (p : Pers L H L' H') : ∀ {ds : List D} {vs : List V}, Reps M L H ds vs → Reps M L' H' ds vs
  | _, _, .nil => .nil
  | _, _, .cons a b => .cons (Rep.mono p a) (Reps.mono p b)
end
theorem Reps.length {L : Lg} {H : Hp} : ∀ {ds : List D} {vs : List V}, Reps M L H ds vs → ds.length = vs.length
  | _, _, .nil => rfl
  | _, _, .cons _ b => congrArg (· + 1) b.length
theorem Reps.append {L : Lg} {H : Hp} : ∀ {ds es : List D} {vs ws : List V}, Reps M L H ds vs → Reps M L H es ws → Reps M L H (ds ++ es) (vs ++ ws)
  | _, _, _, _, .nil, h => h
  | _, _, _, _, .cons a b, h => .cons a (b.append h)
theorem Reps.get {L : Lg} {H : Hp} : ∀ {ds : List D} {vs : List V} {i : Nat} {d : D}, Reps M L H ds vs → ds[i]? = some d → ∃ v, vs[i]? = some v ∧ Rep M L H d v
  | _, _, _, _, .nil, e => by simp at e
  | _, _, 0, _, .cons a _, e => by simp at e; subst e; exact ⟨_, rfl, a⟩
  | _, _, i + 1, d, .cons _ b, e => by
    obtain ⟨v, h1, h2⟩ := b.get (i := i) (d := d) (by simpa using e)
    exact ⟨v, by simpa using h1, h2⟩
theorem Reps.take {L : Lg} {H : Hp} : ∀ {ds : List D} {vs : List V} (n : Nat), Reps M L H ds vs → Reps M L H (ds.take n) (vs.take n)
  | _, _, 0, _ => by simpa using Reps.nil
  | _, _, _ + 1, .nil => .nil
  | _, _, n + 1, .cons a b => .cons a (b.take n)
theorem Reps.drop {L : Lg} {H : Hp} : ∀ {ds : List D} {vs : List V} (n : Nat), Reps M L H ds vs → Reps M L H (ds.drop n) (vs.drop n)
  | _, _, 0, h => h
  | _, _, _ + 1, .nil => .nil
  | _, _, n + 1, .cons _ b => b.drop n
theorem Reps.reverse {L : Lg} {H : Hp} : ∀ {ds : List D} {vs : List V}, Reps M L H ds vs → Reps M L H ds.reverse vs.reverse
  | _, _, .nil => .nil
  | _, _, .cons a b => by
    rw [List.reverse_cons, List.reverse_cons]
    exact b.reverse.append (.cons a .nil)
theorem Reps.eraseIdx {L : Lg} {H : Hp} : ∀ {ds : List D} {vs : List V} (n : Nat), Reps M L H ds vs → Reps M L H (ds.eraseIdx n) (vs.eraseIdx n)
  | _, _, _, .nil => by simpa using Reps.nil
  | _, _, 0, .cons _ b => by simpa using b
  | _, _, n + 1, .cons a b => by simpa using Reps.cons a (b.eraseIdx n)
theorem Reps.set {L : Lg} {H : Hp} {d : D} {v : V} (r : Rep M L H d v) : ∀ {ds : List D} {vs : List V} (n : Nat), Reps M L H ds vs → Reps M L H (ds.set n d) (vs.set n v)
  | _, _, _, .nil => by simpa using Reps.nil
  | _, _, 0, .cons _ b => by simpa using Reps.cons r b
  | _, _, n + 1, .cons a b => by simpa using Reps.cons a (b.set r n)
theorem Reps.none_of {L : Lg} {H : Hp} {ds : List D} {vs : List V} {i : Nat} (h : Reps M L H ds vs) (e : ds.length ≤ i) : vs.length ≤ i := by rw [← h.length]; exact e
theorem Reps.ints {L : Lg} {H : Hp} : ∀ {ns : List Int} {vs : List V}, Reps M L H (ns.map D.int) vs → vs = ns.map V.int
  | [], _, .nil => rfl
  | _ :: _, _, .cons a b => by
    cases a
    rw [b.ints]; rfl
theorem Reps.of_ints {L : Lg} {H : Hp} : ∀ (ns : List Int), Reps M L H (ns.map D.int) (ns.map V.int)
  | [] => .nil
  | n :: ns => .cons (.int n) (Reps.of_ints ns)
theorem Reps.bls {L : Lg} {H : Hp} : ∀ {ns : List Bool} {vs : List V}, Reps M L H (ns.map D.bl) vs → vs = ns.map V.bl
  | [], _, .nil => rfl
  | _ :: _, _, .cons a b => by
    cases a
    rw [b.bls]; rfl
theorem Reps.strs {L : Lg} {H : Hp} : ∀ {ns : List Str} {vs : List V}, Reps M L H (ns.map D.str) vs → vs = ns.map V.str
  | [], _, .nil => rfl
  | _ :: _, _, .cons a b => by
    cases a
    rw [b.strs]; rfl
def FReps (M : Mo) (L : Lg) (H : Hp) : List (Str × D) → List (Str × V) → Prop := Paired fun p q => p.1 = q.1 ∧ Rep M L H p.2 q.2
theorem FReps.mono {L L' : Lg} {H H' : Hp} (p : Pers L H L' H') {fs : List (Str × D)} {vs : List (Str × V)} (h : FReps M L H fs vs) : FReps M L' H' fs vs := Paired.mapP h fun _ _ z => ⟨z.1, z.2.mono p⟩

/-! a dict with nested keys, told by its one object -/
mutual
/-- the value v stands for the key k -/
inductive KRep (M : Mo) (L : Lg) (H : Hp) : NestedKey → V → Prop
  | none : KRep M L H .none .non
  | num (i : Int) : KRep M L H (.num i) (.int i)
  | text (x : Str) : KRep M L H (.text x) (.str x)
  | tup {ks : List NestedKey} {a : Addr} {xs : List V} : Free M L a → H a = some (.tup xs) → KReps M L H ks xs → KRep M L H (.tup ks) (.ref a)
inductive KReps (M : Mo) (L : Lg) (H : Hp) : List NestedKey → List V → Prop
  | nil : KReps M L H [] []
  | cons {k : NestedKey} {v : V} {ks : List NestedKey} {vs : List V} : KRep M L H k v → KReps M L H ks vs → KReps M L H (k :: ks) (v :: vs)
end
mutual
theorem KRep.mono {L L' : Lg} {H H' : Hp} (p : Pers L H L' H') : ∀ {k : NestedKey} {v : V}, KRep M L H k v → KRep M L' H' k v
  | _, _, .none => .none
  | _, _, .num i => .num i
  | _, _, .text x => .text x
  | _, _, .tup a b c => .tup (a.mono p b).1 (a.mono p b).2 (KReps.mono p c)
theorem KReps.mono {L L' : Lg} {H H' : Hp} (p : Pers L H L' H') : ∀ {k : List NestedKey} {v : List V}, KReps M L H k v → KReps M L' H' k v
  | _, _, .nil => .nil
  | _, _, .cons a b => .cons (KRep.mono p a) (KReps.mono p b)
end

end
/-- a dict's one object -/
def DctRaw (P : Program) (w : World) (h : Heap) (p : Addr) (xs : List (NestedKey × Addr × Value)) : Prop :=
  ∃ o es ep, h.get? p = some o ∧ o.ExactDict ∧ o.data = .dict es ep ∧ es.toList = xs.map (entryOfKey (nestedKind P w)) ∧ (xs.map (·.1)).Nodup
def dctO (M : Mo) (p : Addr) (xs : List (NestedKey × Addr × Value)) : HO := .ext fun h => DctRaw M.P M.w h p xs
/-- the entries' own keys and values -/
def ERep (M : Mo) (L : Lg) (H : Hp) (x : NestedKey × D) (y : NestedKey × Addr × Value) : Prop := x.1 = y.1 ∧ x.1.depth ≤ 8 ∧ KRep M L H x.1 (.ref y.2.1) ∧ ∃ v, Rep M L H x.2 v ∧ RelV v y.2.2
def EReps (M : Mo) (L : Lg) (H : Hp) : List (NestedKey × D) → List (NestedKey × Addr × Value) → Prop := Paired (ERep M L H)
theorem EReps.mono {M : Mo} {L L' : Lg} {H H' : Hp} (p : Pers L H L' H') {xs : List (NestedKey × D)} {ys : List (NestedKey × Addr × Value)} (h : EReps M L H xs ys) : EReps M L' H' xs ys :=
  Paired.mapP h fun _ _ ⟨a, b, c, v, d, e⟩ => ⟨a, b, c.mono p, v, d.mono p, e⟩
def CellOk (M : Mo) (L : Lg) (H : Hp) (p : Addr) : Cell → Prop
  | .lst ds => ∃ xs, H p = some (.lst xs) ∧ Reps M L H ds xs
  | .dct kvs => ∃ xs, H p = some (dctO M p xs) ∧ EReps M L H kvs xs ∧ (p == sysModules) = false
  | .ins C fs => ∃ dx vs, H p = some (.ins C dx vs) ∧ H dx = some (.own p) ∧ Free M L dx ∧ FReps M L H fs vs
  | .tab q => ∃ ps : Array Value, H p = some (.tbl ps) ∧ TriplesOk ps.toList ∧ ∀ (pos : Pos) (cv : Value), codeAmong pos ps.toList = some cv → ∃ c, cv = .ref c ∧ H c = some (LamX.CodeO c q) ∧ Free M L c
theorem CellOk.at_ {M : Mo} {L : Lg} {H : Hp} {p : Addr} {c : Cell} (h : CellOk M L H p c) : ∃ o, H p = some o := by
  cases c with
  | lst ds => obtain ⟨xs, e, _⟩ := h; exact ⟨_, e⟩
  | dct kvs => obtain ⟨xs, e, _⟩ := h; exact ⟨_, e⟩
  | ins C fs => obtain ⟨dx, vs, e, _⟩ := h; exact ⟨_, e⟩
  | tab q => obtain ⟨ps, e, _⟩ := h; exact ⟨_, e⟩
theorem CellOk.mono {M : Mo} {L L' : Lg} {H H' : Hp} (p : Pers L H L' H') {a : Addr} {c : Cell} (e : ∀ o, H a = some o → H' a = some o) (h : CellOk M L H a c) : CellOk M L' H' a c := by
  cases c with
  | lst ds => obtain ⟨xs, x, r⟩ := h; exact ⟨xs, e _ x, r.mono p⟩
  | dct kvs => obtain ⟨xs, x, r, z⟩ := h; exact ⟨xs, e _ x, r.mono p, z⟩
  | ins C fs => obtain ⟨dx, vs, x, y, z, r⟩ := h; exact ⟨dx, vs, e _ x, (z.mono p y).2, (z.mono p y).1, r.mono p⟩
  | tab q => obtain ⟨ps, x, t, r⟩ := h; exact ⟨ps, e _ x, t, fun pos cv hc => let ⟨c, e1, e2, f⟩ := r pos cv hc; ⟨c, e1, (f.mono p e2).2, (f.mono p e2).1⟩⟩
/-- the ledger is held -/
structure Wd (M : Mo) (L : Lg) (H : Hp) : Prop where
  cell : ∀ p c, L p = some c → CellOk M L H p c
  hid : ∀ a, M.Z a → L a = none ∧ ∃ xs, H a = some (.lst xs)
theorem Wd.fresh {M : Mo} {L : Lg} {H : Hp} (w : Wd M L H) {p : Addr} (h : H p = none) : Free M L p := by
  refine ⟨?_, fun z => ?_⟩
  · cases e : L p with
    | none => rfl
    | some c =>
      obtain ⟨o, x⟩ := (w.cell p c e).at_
      rw [h] at x; cases x
  · obtain ⟨_, o, e⟩ := w.hid p z
    rw [h] at e; cases e
/-- a new object that is not in the ledger -/
theorem Pers.new {L : Lg} {H : Hp} {p : Addr} {o : HO} (h : H p = none) : Pers L H L (upd H p o) := fun a l u e => ⟨l, by rw [upd_ne (ne_of_none e h)]; exact e⟩
theorem Wd.ext {M : Mo} {L : Lg} {H H' : Hp} (w : Wd M L H) (e : ∀ b o, H b = some o → H' b = some o) : Wd M L H' :=
  ⟨fun p c h => (w.cell p c h).mono (fun _ l _ x => ⟨l, e _ _ x⟩) (fun _ x => e _ _ x), fun a z => ⟨(w.hid a z).1, _, e _ _ (w.hid a z).2.choose_spec⟩⟩
theorem Wd.new {M : Mo} {L : Lg} {H : Hp} {p : Addr} {o : HO} (w : Wd M L H) (h : H p = none) : Wd M L (upd H p o) := w.ext fun b u e => by rw [upd_ne (ne_of_none e h)]; exact e
/-- a new object of the ledger -/
theorem Pers.newL {L : Lg} {H : Hp} {p : Addr} {o : HO} {c : Cell} (h : H p = none) : Pers L H (put L p c) (upd H p o) := fun a l u e => by
  have ne : a ≠ p := ne_of_none e h
  exact ⟨by rw [put_ne ne]; exact l, by rw [upd_ne ne]; exact e⟩
theorem Wd.newL {M : Mo} {L : Lg} {H : Hp} {p : Addr} {o : HO} {c : Cell} (w : Wd M L H) (h : H p = none) (k : CellOk M (put L p c) (upd H p o) p c) : Wd M (put L p c) (upd H p o) := ⟨fun q d e => by
  by_cases ne : q = p
  · subst ne; rw [put_same] at e; cases e; exact k
  · rw [put_ne ne] at e
    exact (w.cell q d e).mono (Pers.newL h) (fun u x => by rw [upd_ne ne]; exact x), fun a z => by
  obtain ⟨l, u, e⟩ := w.hid a z
  have ne : a ≠ p := ne_of_none e h
  exact ⟨by rw [put_ne ne]; exact l, u, by rw [upd_ne ne]; exact e⟩⟩
/-- an object of the ledger changes -/
theorem Pers.mut {L : Lg} {H : Hp} {p : Addr} {o : HO} {c d : Cell} (h : L p = some d) : Pers L H (put L p c) (upd H p o) := fun a l u e => by
  have ne : a ≠ p := fun z => by subst z; rw [h] at l; cases l
  exact ⟨by rw [put_ne ne]; exact l, by rw [upd_ne ne]; exact e⟩
theorem Wd.mut {M : Mo} {L : Lg} {H : Hp} {p : Addr} {o : HO} {c d : Cell} (w : Wd M L H) (h : L p = some d) (k : CellOk M (put L p c) (upd H p o) p c) : Wd M (put L p c) (upd H p o) := ⟨fun q e' e => by
  by_cases ne : q = p
  · subst ne; rw [put_same] at e; cases e; exact k
  · rw [put_ne ne] at e
    exact (w.cell q e' e).mono (Pers.mut h) (fun u x => by rw [upd_ne ne]; exact x), fun a z => by
  obtain ⟨l, u, e⟩ := w.hid a z
  have ne : a ≠ p := fun z => by subst z; rw [h] at l; cases l
  exact ⟨by rw [put_ne ne]; exact l, u, by rw [upd_ne ne]; exact e⟩⟩
/-- an object leaves the ledger: it will not change -/
theorem Pers.del {L : Lg} {H : Hp} {p : Addr} : Pers L H (Wv.del L p) H := fun a l u e => ⟨by
  by_cases ne : a = p
  · rw [ne, del_same]
  · rw [del_ne ne]; exact l, e⟩
theorem Wd.del {M : Mo} {L : Lg} {H : Hp} {p : Addr} (w : Wd M L H) : Wd M (Wv.del L p) H := ⟨fun q d e => by
  by_cases ne : q = p
  · subst ne; rw [del_same] at e; cases e
  · rw [del_ne ne] at e; exact (w.cell q d e).mono Pers.del fun _ x => x, fun a z => by
  obtain ⟨l, u, e⟩ := w.hid a z
  exact ⟨by
    by_cases ne : a = p
    · rw [ne, del_same]
    · rw [del_ne ne]; exact l, u, e⟩⟩
/-- what left the ledger is free, if it was there -/
theorem Wd.free_del {M : Mo} {L : Lg} {H : Hp} {p : Addr} {c : Cell} (w : Wd M L H) (h : L p = some c) : Free M (Wv.del L p) p := ⟨del_same, fun z => by
  have := (w.hid p z).1
  rw [h] at this; cases this⟩

/-! ## the slots -/
abbrev Sg := List (Option D)
def Sl (M : Mo) (L : Lg) (H : Hp) (Δ : Sg) (σ : L2.St) : Prop := Δ.length = σ.length ∧ ∀ (i : Nat) (d : D), Δ[i]? = some (some d) → ∃ v, σ[i]? = some (some v) ∧ Rep M L H d v
section
variable {M : Mo} {L L' : Lg} {H H' : Hp} {Δ : Sg} {σ : L2.St}
theorem Sl.mono (p : Pers L H L' H') (s : Sl M L H Δ σ) : Sl M L' H' Δ σ := ⟨s.1, fun i d e => by obtain ⟨v, x, r⟩ := s.2 i d e; exact ⟨v, x, r.mono p⟩⟩
theorem Sl.set {d : D} {v : V} (r : Rep M L H d v) (i : Nat) (s : Sl M L H Δ σ) : Sl M L H (Δ.set i (some d)) (σ.set i (some v)) := by
  refine ⟨by rw [List.length_set, List.length_set]; exact s.1, fun j e h => ?_⟩
  rw [List.getElem?_set] at h
  rw [List.getElem?_set]
  by_cases c : i = j
  · subst c
    rw [if_pos rfl] at h ⊢
    by_cases l : i < Δ.length
    · rw [if_pos l] at h; rw [if_pos (s.1 ▸ l)]
      cases h; exact ⟨v, rfl, r⟩
    · rw [if_neg l] at h; cases h
  · rw [if_neg c] at h ⊢; exact s.2 j e h
theorem Sl.unset (i : Nat) (s : Sl M L H Δ σ) : Sl M L H (Δ.set i none) (σ.set i none) := by
  refine ⟨by rw [List.length_set, List.length_set]; exact s.1, fun j e h => ?_⟩
  rw [List.getElem?_set] at h
  rw [List.getElem?_set]
  by_cases c : i = j
  · subst c
    rw [if_pos rfl] at h
    by_cases l : i < Δ.length
    · rw [if_pos l] at h; cases h
    · rw [if_neg l] at h; cases h
  · rw [if_neg c] at h ⊢; exact s.2 j e h
/-- slots forgotten -/
def wipeD : Sg → List Nat → Sg
  | Δ, [] => Δ
  | Δ, v :: vs => (wipeD Δ vs).set v none
theorem Sl.wipe (s : Sl M L H Δ σ) : ∀ vs, Sl M L H (wipeD Δ vs) (L2.wipe σ vs)
  | [] => s
  | v :: vs => (Sl.wipe s vs).unset v
theorem Sl.weak {Δ' : Sg} (s : Sl M L H Δ σ) (hl : Δ'.length = Δ.length) (h : ∀ (i : Nat) (d : D), Δ'[i]? = some (some d) → Δ[i]? = some (some d)) : Sl M L H Δ' σ := ⟨hl.trans s.1, fun i d e => s.2 i d (h i d e)⟩
end

/-! ## abstract readings, and what they say of the machine -/
abbrev AK := D → Lg → Prop
abbrev AT := Sg → Lg → AK → Prop
abbrev ATT := Sg → Lg → (Bool → Lg → Prop) → Prop
abbrev ATA := Sg → Lg → (List D → Lg → Prop) → Prop
structure AEnds where
  nx : Sg → Lg → Prop
  rt : AK
  bk : Sg → Lg → Prop := fun _ _ => False
  ct : Sg → Lg → Prop := fun _ _ => False
abbrev ATS := AEnds → Sg → Lg → Prop
def Post (M : Mo) (L : Lg) (H : Hp) (K : AK) (Q : VK) : Prop := ∀ d L' v H', Pers L H L' H' → Wd M L' H' → Rep M L' H' d v → K d L' → Q v H'
def PostT (M : Mo) (L : Lg) (H : Hp) (K : Bool → Lg → Prop) (Q : Bool → Hp → Prop) : Prop := ∀ d L' H', Pers L H L' H' → Wd M L' H' → K d L' → Q d H'
def PostA (M : Mo) (L : Lg) (H : Hp) (K : List D → Lg → Prop) (Q : List V → Hp → Prop) : Prop := ∀ ds L' vs H', Pers L H L' H' → Wd M L' H' → Reps M L' H' ds vs → K ds L' → Q vs H'
def PostS (M : Mo) (L : Lg) (H : Hp) (K : Sg → Lg → Prop) (Q : L2.St → Hp → Prop) : Prop := ∀ Δ' L' σ' H', Pers L H L' H' → Wd M L' H' → Sl M L' H' Δ' σ' → K Δ' L' → Q σ' H'
def PostE (M : Mo) (L : Lg) (H : Hp) (A : AEnds) (E : Ends) : Prop := PostS M L H A.nx E.nx ∧ Post M L H A.rt E.rt ∧ PostS M L H A.bk E.bk ∧ PostS M L H A.ct E.ct
def lift (M : Mo) (t : AT) : TE := fun σ H Q => ∃ Z Δ L K, Wd (M.z Z) L H ∧ Sl (M.z Z) L H Δ σ ∧ t Δ L K ∧ Post (M.z Z) L H K Q
def liftT (M : Mo) (t : ATT) : TT := fun σ H Q => ∃ Z Δ L K, Wd (M.z Z) L H ∧ Sl (M.z Z) L H Δ σ ∧ t Δ L K ∧ PostT (M.z Z) L H K Q
def liftA (M : Mo) (t : ATA) : TA := fun σ H Q => ∃ Z Δ L K, Wd (M.z Z) L H ∧ Sl (M.z Z) L H Δ σ ∧ t Δ L K ∧ PostA (M.z Z) L H K Q
def liftS (M : Mo) (t : ATS) : TS := fun E σ H => ∃ Z Δ L A, Wd (M.z Z) L H ∧ Sl (M.z Z) L H Δ σ ∧ t A Δ L ∧ PostE (M.z Z) L H A E
section
variable {M : Mo} {L L1 : Lg} {H H1 : Hp}
theorem Post.after {K : AK} {Q : VK} (p : Pers L H L1 H1) (q : Post M L H K Q) : Post M L1 H1 K Q := fun d L' v H' p' => q d L' v H' (p.trans p')
theorem PostT.after {K : Bool → Lg → Prop} {Q : Bool → Hp → Prop} (p : Pers L H L1 H1) (q : PostT M L H K Q) : PostT M L1 H1 K Q := fun d L' H' p' => q d L' H' (p.trans p')
theorem PostA.after {K : List D → Lg → Prop} {Q : List V → Hp → Prop} (p : Pers L H L1 H1) (q : PostA M L H K Q) : PostA M L1 H1 K Q := fun d L' v H' p' => q d L' v H' (p.trans p')
theorem PostS.after {K : Sg → Lg → Prop} {Q : L2.St → Hp → Prop} (p : Pers L H L1 H1) (q : PostS M L H K Q) : PostS M L1 H1 K Q := fun d L' v H' p' => q d L' v H' (p.trans p')
theorem PostE.after {A : AEnds} {E : Ends} (p : Pers L H L1 H1) (q : PostE M L H A E) : PostE M L1 H1 A E := ⟨q.1.after p, q.2.1.after p, q.2.2.1.after p, q.2.2.2.after p⟩
end
def mo (P : Program) (w : World) (K : PySem.W.Frag) : Mo := ⟨P, w, K, fun _ => False⟩
def _root_.L2.Cx.mo (X : Cx) : Mo := Wv.mo X.prog X.w X.K
abbrev AE (X : Cx) (e : Expr) (t : AT) : Prop := PE X e (lift X.mo t)
abbrev ATE (X : Cx) (e : Expr) (t : ATT) : Prop := PT X e (liftT X.mo t)
abbrev AA (X : Cx) (es : List Expr) (t : ATA) : Prop := PA X es (liftA X.mo t)
abbrev AS (X : Cx) (s : Stmt) (t : ATS) : Prop := PS X s (liftS X.mo t)
abbrev ASs (X : Cx) (s : List Stmt) (t : ATS) : Prop := PSs X s (liftS X.mo t)
section
variable {X : Cx} {e : Expr} {es : List Expr} {st : Stmt} {sts : List Stmt}
theorem peW {t1 t2 : TE} (h : PE X e t1) (w : ∀ σ H Q, t2 σ H Q → t1 σ H Q) : PE X e t2 := ⟨fun pins s σ H Q I k => h.run pins s σ H Q I (w _ _ _ k)⟩
theorem ptW {t1 t2 : TT} (h : PT X e t1) (w : ∀ σ H Q, t2 σ H Q → t1 σ H Q) : PT X e t2 := ⟨fun pins s σ H Q I k => h.run pins s σ H Q I (w _ _ _ k)⟩
theorem pwW {t1 t2 : TT} (h : PW X e t1) (w : ∀ σ H Q, t2 σ H Q → t1 σ H Q) : PW X e t2 := ⟨fun wh pins s σ H Q I k => h.run wh pins s σ H Q I (w _ _ _ k)⟩
theorem paW {t1 t2 : TA} (h : PA X es t1) (w : ∀ σ H Q, t2 σ H Q → t1 σ H Q) : PA X es t2 := ⟨fun pos pins s σ H Q I k => h.run pos pins s σ H Q I (w _ _ _ k)⟩
theorem psW {t1 t2 : TS} (h : PS X st t1) (w : ∀ E σ H, t2 E σ H → t1 E σ H) : PS X st t2 := ⟨fun pins s σ H E I k => h.run pins s σ H E I (w _ _ _ k)⟩
theorem pssW {t1 t2 : TS} (h : PSs X sts t1) (w : ∀ E σ H, t2 E σ H → t1 E σ H) : PSs X sts t2 := ⟨fun pins s σ H E I k => h.run pins s σ H E I (w _ _ _ k)⟩
theorem piW {tg it : Expr} {t1 t2 : TI} (h : PI X tg it t1) (w : ∀ σ H Q, t2 σ H Q → t1 σ H Q) : PI X tg it t2 := ⟨fun pins s σ H Q I k => h.run pins s σ H Q I (w _ _ _ k)⟩
end
end Wv

namespace Wv
open PySem L2

/-! ## expressions: names, constants -/
section
variable {X : Cx} {e a b c : Expr} {es : List Expr} {pos : Pos} {ta tb tc : AT} {M : Mo}
def aVar (i : Nat) : AT := fun Δ L K => match Δ[i]? with
  | some (some d) => K d L
  | _ => False
def aC (d : D) : AT := fun _ L K => K d L
theorem ae_var {i : Nat} (h : PE X e (tVar i)) : AE X e (aVar i) := peW h fun σ H Q => by
  rintro ⟨Z, Δ, L, K, w, s, t, q⟩
  unfold aVar at t
  split at t
  · rename_i d e
    obtain ⟨v, x, r⟩ := s.2 i d e
    exact ⟨v, x, q _ _ _ _ (Pers.refl L H) w r t⟩
  · exact t.elim
theorem ae_c {v : V} {d : D} (r : ∀ M L H, Rep M L H d v) (h : PE X e (tC v)) : AE X e (aC d) := peW h fun σ H Q => by
  rintro ⟨Z, Δ, L, K, w, s, t, q⟩
  exact q _ _ _ _ (Pers.refl L H) w (r _ L H) t
theorem ae_int {i : Int} {j} : AE X (.Constant (.int i) j pos) (aC (.int i)) := ae_c (fun _ _ _ => .int i) pe_int
theorem ae_bl {i : Bool} {j} : AE X (.Constant (.bool i) j pos) (aC (.bl i)) := ae_c (fun _ _ _ => .bl i) pe_bl
theorem ae_non {j} : AE X (.Constant .none j pos) (aC .non) := ae_c (fun _ _ _ => .non) pe_non
theorem ae_str {x : Str} {j} : AE X (.Constant (.str x) j pos) (aC (.str x)) := ae_c (fun _ _ _ => .str x) pe_str
theorem ae_gint {x : Str} {i : Int} (hg : Gl X x) (hm : ∃ t, X.mg x = some (.int i t)) (hd : (x == ("__debug__" : Str)) = false := by decide) : AE X (.Name x pos) (aC (.int i)) := by
  obtain ⟨t, h⟩ := hm
  exact ae_c (fun _ _ _ => .int i) (pe_glob (v := .int i) hg h ⟨t, rfl⟩ hd)

/-! ## operators -/
abbrev AR2 := D → D → Lg → AK → Prop
def RO (M : Mo) (r : R2) (ρ : AR2) : Prop := ∀ Z x y v w L H K Q, Wd (M.z Z) L H → Rep (M.z Z) L H x v → Rep (M.z Z) L H y w → ρ x y L K → Post (M.z Z) L H K Q → r v w H Q
def aOp (ρ : AR2) (ta tb : AT) : AT := fun Δ L K => ta Δ L fun x L1 => tb Δ L1 fun y L2 => ρ x y L2 K
theorem lift_op {r : R2} {ρ : AR2} (hr : RO M r ρ) {σ : L2.St} {H : Hp} {Q : VK} (h : lift M (aOp ρ ta tb) σ H Q) : tOp r (lift M ta) (lift M tb) σ H Q := by
  obtain ⟨Z, Δ, L, K, w, s, t, q⟩ := h
  refine ⟨Z, Δ, L, _, w, s, t, fun x L1 v1 H1 p1 w1 r1 t1 => ?_⟩
  refine ⟨Z, Δ, L1, _, w1, s.mono p1, t1, fun y L2 v2 H2 p2 w2 r2 t2 => ?_⟩
  exact hr Z _ _ _ _ _ _ _ _ w2 (r1.mono p2) r2 t2 (q.after (p1.trans p2))
theorem ae_op {op : Operator} {r : R2} {ρ : AR2} (ho : OpR X (binaryOp op) r) (hr : RO X.mo r ρ) (ha : AE X a ta) (hb : AE X b tb) : AE X (.BinOp a op b pos) (aOp ρ ta tb) :=
  peW (pe_op ho ha hb) fun _ _ _ => lift_op hr
theorem ae_cmp {op : CmpOp} {r : R2} {ρ : AR2} (ho : OpR X (compareOp op) r) (hr : RO X.mo r ρ) (ha : AE X a ta) (hb : AE X b tb) (hm : behindInMarks op b = false) : AE X (.Compare a [op] [b] pos) (aOp ρ ta tb) :=
  peW (pe_cmpR ho ha hb hm) fun _ _ _ => lift_op hr
theorem ae_ix {r : R2} {ρ : AR2} (ho : IxR X r) (hr : RO X.mo r ρ) (ha : AE X a ta) (hb : AE X b tb) (hs : PlainIx b) : AE X (.Subscript a b pos) (aOp ρ ta tb) :=
  peW (pe_ix ho ha hb hs) fun _ _ _ => lift_op hr
/-- what stands behind a value: a list of the ledger as it is -/
def see (L : Lg) : D → D
  | .ref p => match L p with
    | some (.lst ds) => .lst ds
    | _ => .ref p
  | d => d
section
variable {L : Lg} {H : Hp} {d : D} {v : V} {ds : List D}
theorem see_ref {p : Addr} (h : L p = some (.lst ds)) : see L (.ref p) = .lst ds := by simp only [see, h]
theorem rep_lst (w : Wd M L H) (r : Rep M L H d v) (h : see L d = .lst ds) : ∃ a xs, v = .ref a ∧ SqL M.K H a xs ∧ Reps M L H ds xs := by
  cases r with
  | lst a b =>
    have e : _ = ds := D.lst.inj h
    subst e
    exact ⟨_, _, rfl, a.sq, b⟩
  | ref p =>
    unfold see at h
    simp only at h
    split at h
    · rename_i es e
      cases h
      obtain ⟨xs, x, y⟩ := w.cell p _ e
      exact ⟨p, xs, rfl, SqL.of x, y⟩
    · cases h
  | _ => unfold see at h; cases h
theorem rep_tup (r : Rep M L H d v) (h : see L d = .tup ds) : ∃ a xs, v = .ref a ∧ Free M L a ∧ H a = some (.tup xs) ∧ Reps M L H ds xs := by
  cases r with
  | tup a b c =>
    have e : _ = ds := D.tup.inj h
    subst e
    exact ⟨_, _, rfl, a, b, c⟩
  | ref p =>
    unfold see at h
    simp only at h
    split at h <;> cases h
  | _ => unfold see at h; cases h
theorem rep_int (r : Rep M L H d v) {i : Int} (h : see L d = .int i) : v = .int i := by
  cases r with
  | int j => unfold see at h; cases h; rfl
  | ref p =>
    unfold see at h
    simp only at h
    split at h <;> cases h
  | _ => unfold see at h; cases h
end
/-- ints -/
def oI0 (g : Int → Int → D) : AR2 := fun x y L K => match x, y with
  | .int i, .int j => K (g i j) L
  | _, _ => False
def oI (C : Int → Int → Prop) (g : Int → Int → D) : AR2 := fun x y L K => match x, y with
  | .int i, .int j => C i j ∧ K (g i j) L
  | _, _ => False
theorem ro_I0 {g : Int → Int → D} {gv : Int → Int → V} (hg : ∀ M i j L H, Rep M L H (g i j) (gv i j)) : RO M (rI0 gv) (oI0 g) := by
  intro Z x y v w L H K Q W rx ry t q
  unfold oI0 at t
  split at t
  · cases rx; cases ry
    exact ⟨_, _, rfl, rfl, q _ _ _ _ (Pers.refl L H) W (hg _ _ _ _ _) t⟩
  · exact t.elim
theorem ro_I {C : Int → Int → Prop} {g : Int → Int → D} {gv : Int → Int → V} (hg : ∀ M i j L H, Rep M L H (g i j) (gv i j)) : RO M (rI C gv) (oI C g) := by
  intro Z x y v w L H K Q W rx ry t q
  unfold oI at t
  split at t
  · cases rx; cases ry
    exact ⟨_, _, rfl, rfl, t.1, q _ _ _ _ (Pers.refl L H) W (hg _ _ _ _ _) t.2⟩
  · exact t.elim
/-- list + list, of any standing -/
def rCatL (K : PySem.W.Frag) : R2 := fun x y H Q => ∃ l b xs zs, x = .ref l ∧ y = .ref b ∧ SqL K H l xs ∧ SqL K H b zs ∧ xs.length + zs.length ≤ sizeLine ∧ ∀ p, H p = none → Q (.ref p) (upd H p (.lst (xs ++ zs)))
theorem op_catL : OpR X (binaryOp .Add) (rCatL X.K) := by
  intro pins s σ H x y v u Q I rx ry h
  obtain ⟨l, b, xs, zs, rfl, rfl, hH, hB, hz, q⟩ := h
  cases rx
  cases ry
  obtain ⟨its, r, ⟨⟨cls, dd, data, sl⟩, n, ho, hc, hdd, hd⟩, z⟩ := I.list hH
  obtain ⟨its2, r2, ⟨⟨cls2, dd2, data2, sl2⟩, n2, ho2, hc2, hdd2, hd2⟩, z2⟩ := I.list hB
  simp only at hc hd hc2 hd2 hdd hdd2
  subst hc hd hc2 hd2 hdd hdd2
  have e : its.toArray ++ its2.toArray = (its ++ its2).toArray := by simp
  have l1 := r.length
  have l2 := r2.length
  refine concat_meets ⟨_, ho, rfl⟩ ⟨_, ho2, rfl⟩ noFill_list_add seq_list_add PySem.F.slot_list_add PySem.F.entry_list_add (PySem.F.args_list_add_2 _ _) (PyProof.Rows.list_addW l b its.toArray its2.toArray n n2 none none sl sl2 (by simp; omega)) ⟨ho, ho2, ?_⟩
  rw [e]
  exact ⟨.ref _, _, I.lnew (t' := s.toks) (r.append r2) (by rw [List.length_append]; omega), rfl, q _ I.fresh⟩
theorem sz {n : Nat} (h : n ≤ 1000000) : n ≤ sizeLine := Nat.le_trans h (by decide)
def oAdd : AR2 := fun x y L K => match see L x, see L y with
  | .int i, .int j => K (.int (i + j)) L
  | .tup a, .tup b => a.length + b.length ≤ 1000000 ∧ K (.tup (a ++ b)) L
  | .lst a, .lst b => a.length + b.length ≤ 1000000 ∧ K (.lst (a ++ b)) L
  | _, _ => False
def rAddA (K : PySem.W.Frag) : R2 := fun x y H Q => rI0 (fun i j => .int (i + j)) x y H Q ∨ rCatA K x y H Q ∨ rCatL K x y H Q
theorem op_addA : OpR X (binaryOp .Add) (rAddA X.K) := OpR.or op_add (OpR.or op_catA op_catL)
theorem ro_add : RO M (rAddA M.K) oAdd := by
  intro Z x y v w L H K Q W rx ry t q
  unfold oAdd at t
  split at t
  · rename_i i j e1 e2
    rw [rep_int rx e1, rep_int ry e2]
    exact .inl ⟨_, _, rfl, rfl, q _ _ _ _ (Pers.refl L H) W (.int _) t⟩
  · rename_i a b e1 e2
    obtain ⟨p, xs, rfl, lp, hp, r1⟩ := rep_tup rx e1
    obtain ⟨p2, ys, rfl, lp2, hp2, r2⟩ := rep_tup ry e2
    have l1 := r1.length
    have l2 := r2.length
    refine .inr (.inl ⟨p, p2, xs, ys, rfl, rfl, SqT.of hp, SqT.of hp2, sz (by omega), fun e => ?_, fun ne e => ?_, fun n1 n2 z hz => ?_⟩)
    · subst e
      cases r1
      exact q _ _ _ _ (Pers.refl L H) W (.tup lp2 hp2 r2) t.2
    · subst e
      cases r2
      refine q _ _ _ _ (Pers.refl L H) W (.tup lp hp ?_) t.2
      rw [List.append_nil]; exact r1
    · have P : Pers L H L (upd H z (.tup (xs ++ ys))) := Pers.new hz
      exact q _ _ _ _ P (W.new hz) (.tup (W.fresh hz) upd_same ((r1.mono P).append (r2.mono P))) t.2
  · rename_i a b e1 e2
    obtain ⟨p, xs, rfl, hp, r1⟩ := rep_lst W rx e1
    obtain ⟨p2, ys, rfl, hp2, r2⟩ := rep_lst W ry e2
    have l1 := r1.length
    have l2 := r2.length
    refine .inr (.inr ⟨p, p2, xs, ys, rfl, rfl, hp, hp2, sz (by omega), fun z hz => ?_⟩)
    have P : Pers L H L (upd H z (.lst (xs ++ ys))) := Pers.new hz
    exact q _ _ _ _ P (W.new hz) (.lst (.inl ⟨W.fresh hz, .inl upd_same⟩) ((r1.mono P).append (r2.mono P))) t.2
  · exact t.elim
theorem ae_add (ha : AE X a ta) (hb : AE X b tb) : AE X (.BinOp a .Add b pos) (aOp oAdd ta tb) := ae_op op_addA ro_add ha hb
theorem ae_sub (ha : AE X a ta) (hb : AE X b tb) : AE X (.BinOp a .Sub b pos) (aOp (oI0 fun i j => .int (i - j)) ta tb) := ae_op op_sub (ro_I0 fun _ _ _ _ _ => .int _) ha hb
theorem ae_mod (ha : AE X a ta) (hb : AE X b tb) : AE X (.BinOp a .Mod b pos) (aOp (oI (fun _ j => 0 < j) fun i j => .int (i % j)) ta tb) := ae_op op_mod (ro_I fun _ _ _ _ _ => .int _) ha hb
theorem ae_fdiv (ha : AE X a ta) (hb : AE X b tb) : AE X (.BinOp a .FloorDiv b pos) (aOp (oI CDiv fun i j => .int (i / j)) ta tb) := ae_op op_fdiv (ro_I fun _ _ _ _ _ => .int _) ha hb
theorem ae_pow (ha : AE X a ta) (hb : AE X b tb) : AE X (.BinOp a .Pow b pos) (aOp (oI CPow fun i j => .int (i ^ j.toNat)) ta tb) := ae_op op_pow (ro_I fun _ _ _ _ _ => .int _) ha hb
theorem ae_mul (ha : AE X a ta) (hb : AE X b tb) : AE X (.BinOp a .Mult b pos) (aOp (oI CMul fun i j => .int (i * j)) ta tb) := ae_op op_mul (ro_I fun _ _ _ _ _ => .int _) ha hb
theorem ae_lt (ha : AE X a ta) (hb : AE X b tb) : AE X (.Compare a [.Lt] [b] pos) (aOp (oI0 fun i j => .bl (decide (i < j))) ta tb) := ae_cmp op_lt (ro_I0 fun _ _ _ _ _ => .bl _) ha hb (nomark _)
theorem ae_le (ha : AE X a ta) (hb : AE X b tb) : AE X (.Compare a [.LtE] [b] pos) (aOp (oI0 fun i j => .bl (decide (i ≤ j))) ta tb) := ae_cmp op_le (ro_I0 fun _ _ _ _ _ => .bl _) ha hb (nomark _)
theorem ae_gt (ha : AE X a ta) (hb : AE X b tb) : AE X (.Compare a [.Gt] [b] pos) (aOp (oI0 fun i j => .bl (decide (j < i))) ta tb) := ae_cmp op_gt (ro_I0 fun _ _ _ _ _ => .bl _) ha hb (nomark _)
theorem ae_ge (ha : AE X a ta) (hb : AE X b tb) : AE X (.Compare a [.GtE] [b] pos) (aOp (oI0 fun i j => .bl (decide (j ≤ i))) ta tb) := ae_cmp op_ge (ro_I0 fun _ _ _ _ _ => .bl _) ha hb (nomark _)
/-- a unary minus of a written number -/
def aNeg (ta : AT) : AT := fun Δ L K => ta Δ L fun x L1 => match x with
  | .int i => K (.int (-i)) L1
  | _ => False
theorem ae_neg (ha : AE X a ta) : AE X (.UnaryOp .USub a pos) (aNeg ta) := peW (pe_un un_neg ha) fun σ H Q => by
  rintro ⟨Z, Δ, L, K, w, s, t, q⟩
  refine ⟨Z, Δ, L, _, w, s, t, fun x L1 v1 H1 p1 w1 r1 t1 => ?_⟩
  split at t1
  · cases r1
    exact ⟨_, rfl, q _ _ _ _ p1 w1 (.int _) t1⟩
  · exact t1.elim
/-! ### is None -/
def isN : D → Bool
  | .non => true
  | _ => false
theorem isN_rep {L : Lg} {H : Hp} {d : D} {v : V} (r : Rep M L H d v) : decide (v = .non) = isN d := by cases r <;> simp [isN]
def aIsN (neg : Bool) (ta : AT) : AT := fun Δ L K => ta Δ L fun x L1 => K (.bl (xor neg (isN x))) L1
theorem ae_isN {j p} (ha : AE X a ta) : AE X (.Compare a [.Is] [.Constant .none j p] pos) (aIsN false ta) := peW (pe_cmp (pc_isN ha) rfl) fun σ H Q => by
  rintro ⟨Z, Δ, L, K, w, s, t, q⟩
  refine ⟨Z, Δ, L, _, w, s, t, fun x L1 v1 H1 p1 w1 r1 t1 => ?_⟩
  show Q (V.bl _) _
  rw [isN_rep r1]
  exact q _ _ _ _ p1 w1 (.bl _) (by simpa using t1)
theorem ae_notN {j p} (ha : AE X a ta) : AE X (.Compare a [.IsNot] [.Constant .none j p] pos) (aIsN true ta) := peW (pe_cmp (pc_notN ha) rfl) fun σ H Q => by
  rintro ⟨Z, Δ, L, K, w, s, t, q⟩
  refine ⟨Z, Δ, L, _, w, s, t, fun x L1 v1 H1 p1 w1 r1 t1 => ?_⟩
  show Q (V.bl _) _
  rw [isN_rep r1]
  exact q _ _ _ _ p1 w1 (.bl _) (by simpa using t1)

/-! ### == of data -/
mutual
def D.py : D → PyData
  | .non => .none | .bl b => .bool b | .int i => .int i | .str x => .str x
  | .tup ds => .tuple (D.pys ds) | .lst ds => .list (D.pys ds) | .ref _ => .none
def D.pys : List D → List PyData
  | [] => []
  | d :: ds => d.py :: D.pys ds
end
mutual
/-- no reference in it, its texts fit, no more than n deep -/
def okD : Nat → D → Bool
  | _, .non | _, .bl _ | _, .int _ => true
  | _, .str x => PyData.strOk x
  | _, .ref _ => false
  | 0, .tup _ | 0, .lst _ => false
  | n + 1, .tup ds | n + 1, .lst ds => okDs n ds
def okDs : Nat → List D → Bool
  | _, [] => true
  | n, d :: ds => okD n d && okDs n ds
end
mutual
theorem dp_of {L : Lg} {H : Hp} : ∀ {n : Nat} {d : D} {v : V}, okD n d = true → Rep M L H d v → Dp M.K H v d.py
  | _, _, _, _, .non => .non
  | _, _, _, _, .bl b => .bl b
  | _, _, _, _, .int i => .int i
  | _, _, _, _, .str x => .str x
  | 0, .tup _, _, h, _ => by simp [okD] at h
  | n + 1, .tup _, _, h, .tup a b c => .tup (SqT.of b) (dps_of (n := n) (by simpa [okD] using h) c)
  | 0, .lst _, _, h, _ => by simp [okD] at h
  | n + 1, .lst _, _, h, .lst a c => .lst a.sq (dps_of (n := n) (by simpa [okD] using h) c)
  | _, .ref _, _, h, _ => by simp [okD] at h
theorem dps_of {L : Lg} {H : Hp} : ∀ {n : Nat} {ds : List D} {vs : List V}, okDs n ds = true → Reps M L H ds vs → DpAll M.K H vs (D.pys ds)
  | _, _, _, _, .nil => .nil
  | n, _, _, h, .cons a b => by
    simp only [okDs, Bool.and_eq_true] at h
    exact .cons (dp_of h.1 a) (dps_of h.2 b)
end
end
end Wv

namespace Wv
open PySem L2

/-! ## ==, in -/
def eqD (x y : D) : Bool := PyData.eqv x.py y.py
mutual
theorem okD_lay : ∀ (n : Nat) (d : D), okD n d = true → d.py.canLay0 = true ∧ d.py.depth ≤ n
  | _, .non, _ => ⟨rfl, Nat.zero_le _⟩
  | _, .bl b, _ => ⟨rfl, Nat.zero_le _⟩
  | _, .int i, _ => ⟨rfl, Nat.zero_le _⟩
  | _, .str x, h => ⟨by simpa [D.py, PyData.canLay0, okD] using h, Nat.zero_le _⟩
  | 0, .tup _, h => by simp [okD] at h
  | n + 1, .tup ds, h => by
    obtain ⟨a, b⟩ := okDs_lay n ds (by simpa [okD] using h)
    exact ⟨by simpa [D.py, PyData.canLay0] using a, by simp only [D.py, PyData.depth]; omega⟩
  | 0, .lst _, h => by simp [okD] at h
  | n + 1, .lst ds, h => by
    obtain ⟨a, b⟩ := okDs_lay n ds (by simpa [okD] using h)
    exact ⟨by simpa [D.py, PyData.canLay0] using a, by simp only [D.py, PyData.depth]; omega⟩
  | _, .ref _, h => by simp [okD] at h
theorem okDs_lay : ∀ (n : Nat) (ds : List D), okDs n ds = true → PyData.canLayAll0 (D.pys ds) = true ∧ PyData.depthAll (D.pys ds) ≤ n
  | _, [], _ => ⟨rfl, Nat.zero_le _⟩
  | n, d :: ds, h => by
    simp only [okDs, Bool.and_eq_true] at h
    obtain ⟨a, b⟩ := okD_lay n d h.1
    obtain ⟨a2, b2⟩ := okDs_lay n ds h.2
    exact ⟨by simp [D.pys, PyData.canLayAll0, a, a2], by simp only [D.pys, PyData.depthAll]; omega⟩
end
theorem okD_shaped {d : D} (h : okD 64 d = true) : SeqAt.shaped d.py = true := by
  obtain ⟨a, b⟩ := okD_lay 64 d h
  simp [SeqAt.shaped, a, b]
section
variable {X : Cx} {e a b c : Expr} {es : List Expr} {pos : Pos} {ta tb tc : AT} {M : Mo}
theorem dp_see {L : Lg} {H : Hp} {d : D} {v : V} {n : Nat} (w : Wd M L H) (r : Rep M L H d v) (h : okD n (see L d) = true) : Dp M.K H v (see L d).py := by
  cases d with
  | ref p =>
    cases e : L p with
    | none => rw [show see L (.ref p) = .ref p by simp only [see, e]] at h; simp [okD] at h
    | some c =>
      cases c with
      | lst ds =>
        have es : see L (.ref p) = .lst ds := see_ref e
        rw [es] at h ⊢
        obtain ⟨a, xs, rfl, s, rs⟩ := rep_lst w r es
        cases n with
        | zero => simp [okD] at h
        | succ n => exact .lst s (dps_of (n := n) (by simpa [okD] using h) rs)
      | dct _ => rw [show see L (.ref p) = .ref p by simp only [see, e]] at h; simp [okD] at h
      | ins _ _ => rw [show see L (.ref p) = .ref p by simp only [see, e]] at h; simp [okD] at h
      | tab _ => rw [show see L (.ref p) = .ref p by simp only [see, e]] at h; simp [okD] at h
  | _ => exact dp_of h r
def oEq (neg : Bool) : AR2 := fun x y L K => okD 64 (see L x) = true ∧ okD 64 (see L y) = true ∧ K (.bl (xor neg (eqD (see L x) (see L y)))) L
theorem ro_eq : RO M (rEqD M.K) (oEq false) := by
  intro Z x y v w L H K Q W rx ry t q
  obtain ⟨h1, h2, t⟩ := t
  exact ⟨_, _, dp_see (M := M.z Z) W rx h1, dp_see (M := M.z Z) W ry h2, okD_shaped h1, okD_shaped h2, q _ _ _ _ (Pers.refl L H) W (.bl _) (by simpa [eqD] using t)⟩
theorem ro_ne : RO M (rNeD M.K) (oEq true) := by
  intro Z x y v w L H K Q W rx ry t q
  obtain ⟨h1, h2, t⟩ := t
  exact ⟨_, _, dp_see (M := M.z Z) W rx h1, dp_see (M := M.z Z) W ry h2, okD_shaped h1, okD_shaped h2, q _ _ _ _ (Pers.refl L H) W (.bl _) (by simpa [eqD] using t)⟩
theorem ae_eq (hu : X.A.units + 64 < cLine) (ha : AE X a ta) (hb : AE X b tb) : AE X (.Compare a [.Eq] [b] pos) (aOp (oEq false) ta tb) := ae_cmp (op_eqD hu) ro_eq ha hb (nomark _)
theorem ae_ne (hu : X.A.units + 64 < cLine) (ha : AE X a ta) (hb : AE X b tb) : AE X (.Compare a [.NotEq] [b] pos) (aOp (oEq true) ta tb) := ae_cmp (op_neD hu) ro_ne ha hb (nomark _)

def flatD : D → Bool
  | .non | .bl _ | .int _ | .str _ => true
  | _ => false
theorem flat_rep {L : Lg} {H : Hp} {d : D} {v : V} (r : Rep M L H d v) : flatV v = flatD d := by cases r <;> rfl
theorem eqV_rep {L : Lg} {H : Hp} {d e : D} {v w : V} (r : Rep M L H d v) (r2 : Rep M L H e w) (h : flatD d = true) (h2 : flatD e = true) : eqV v w = eqD d e := by
  cases r <;> cases r2 <;> first | rfl | (simp [flatD] at h; done) | (simp [flatD] at h2; done)
def inD (x : D) (ds : List D) : Bool := ds.any fun y => eqD y x
theorem inV_rep {L : Lg} {H : Hp} {d : D} {v : V} (r : Rep M L H d v) (h : flatD d = true) : ∀ {ds : List D} {vs : List V}, Reps M L H ds vs → ds.all flatD = true → vs.all flatV = true ∧ inV v vs = inD d ds
  | _, _, .nil, _ => ⟨rfl, rfl⟩
  | _, _, .cons a b, hs => by
    simp only [List.all_cons, Bool.and_eq_true] at hs
    obtain ⟨i1, i2⟩ := inV_rep r h b hs.2
    refine ⟨by rw [List.all_cons, flat_rep a, hs.1, i1]; rfl, ?_⟩
    unfold inV inD at *
    rw [List.any_cons, List.any_cons, i2, eqV_rep a r hs.1 h]
def okIn (x : D) : D → Bool
  | .lst ds => okD 64 x && okD 64 (.lst ds)
  | .tup ds => flatD x && ds.all flatD
  | _ => false
/-- x in a list (of data), in a tuple (of flat things) -/
def oIn (neg : Bool) : AR2 := fun x y L K => match see L y with
  | .lst ds => okIn x (.lst ds) = true ∧ K (.bl (xor neg (inD x ds))) L
  | .tup ds => okIn x (.tup ds) = true ∧ K (.bl (xor neg (inD x ds))) L
  | _ => False
def rInA (K : PySem.W.Frag) (neg : Bool) : R2 := fun x y H Q => rIn K neg x y H Q ∨ (if neg then rNotInD K else rInD K) x y H Q
theorem any_py (x : D) : ∀ ds : List D, ((D.pys ds).any fun z => PyData.eqv z x.py) = inD x ds
  | [] => rfl
  | d :: ds => by
    show (PyData.eqv d.py x.py || (D.pys ds).any fun z => PyData.eqv z x.py) = _
    rw [any_py x ds]; rfl
theorem ro_in (neg : Bool) : RO M (rInA M.K neg) (oIn neg) := by
  intro Z x y v w L H K Q W rx ry t q
  unfold oIn at t
  split at t
  · rename_i ds e
    obtain ⟨o, t⟩ := t
    simp only [okIn, Bool.and_eq_true] at o
    have hy : okD 64 (see L y) = true := by rw [e]; exact o.2
    have dy := dp_see (M := M.z Z) W ry hy
    rw [e] at dy
    have sh := okD_shaped o.2
    refine .inr ?_
    cases neg with
    | true => exact ⟨_, _, dp_of (M := M.z Z) o.1 rx, dy, okD_shaped o.1, sh, by rw [any_py]; exact q _ _ _ _ (Pers.refl L H) W (.bl _) (by simpa using t)⟩
    | false => exact ⟨_, _, dp_of (M := M.z Z) o.1 rx, dy, okD_shaped o.1, sh, by rw [any_py]; exact q _ _ _ _ (Pers.refl L H) W (.bl _) (by simpa using t)⟩
  · rename_i ds e
    obtain ⟨o, t⟩ := t
    simp only [okIn, Bool.and_eq_true] at o
    obtain ⟨p, xs, rfl, lp, hp, rs⟩ := rep_tup ry e
    obtain ⟨i1, i2⟩ := inV_rep rx o.1 rs o.2
    refine .inl ⟨p, xs, rfl, .inr (SqT.of hp), by rw [flat_rep rx]; exact o.1, i1, ?_⟩
    rw [i2]
    refine q _ _ _ _ (Pers.refl L H) W (.bl _) ?_
    cases neg <;> simpa using t
  · exact t.elim
theorem op_inA (hu : X.A.units + 65 < cLine) : OpR X (compareOp .In) (rInA X.K false) := OpR.or op_in_seq (op_inD hu)
theorem op_notInA (hu : X.A.units + 65 < cLine) : OpR X (compareOp .NotIn) (rInA X.K true) := OpR.or op_notIn_seq (op_notInD hu)
theorem ae_in (hu : X.A.units + 65 < cLine) (ha : AE X a ta) (hb : AE X b tb) (hm : behindInMarks .In b = false) : AE X (.Compare a [.In] [b] pos) (aOp (oIn false) ta tb) := ae_cmp (op_inA hu) (ro_in false) ha hb hm
theorem ae_nin (hu : X.A.units + 65 < cLine) (ha : AE X a ta) (hb : AE X b tb) (hm : behindInMarks .NotIn b = false) : AE X (.Compare a [.NotIn] [b] pos) (aOp (oIn true) ta tb) := ae_cmp (op_notInA hu) (ro_in true) ha hb hm

/-! ## tests, and, or -/
def aB (t : AT) : ATT := fun Δ L K => t Δ L fun x L1 => match x with
  | .bl c => K c L1
  | _ => False
theorem liftT_B {t : AT} {σ : L2.St} {H : Hp} {Q : Bool → Hp → Prop} (h : liftT M (aB t) σ H Q) : tB (lift M t) σ H Q := by
  obtain ⟨Z, Δ, L, K, w, s, t, q⟩ := h
  refine ⟨Z, Δ, L, _, w, s, t, fun x L1 v1 H1 p1 w1 r1 t1 => ?_⟩
  split at t1
  · cases r1
    exact ⟨_, rfl, q _ _ _ p1 w1 t1⟩
  · exact t1.elim
theorem at_val {t : AT} (h : AE X e t) (he : ∀ whole, isTrue e X.env whole = (do let v ← whole; standAt e.pos; holding [v] (truthy v)) := by intro _; rfl) : ATE X e (aB t) :=
  ptW (pt_val h he) fun _ _ _ => liftT_B
theorem at_cmp {op : CmpOp} {r : R2} {ρ : AR2} (ho : OpR X (compareOp op) r) (hr : RO X.mo r ρ) (ha : AE X a ta) (hb : AE X b tb) (hm : behindInMarks op b = false) : ATE X (.Compare a [op] [b] pos) (aB (aOp ρ ta tb)) :=
  ptW (pt_cmpR ho ha hb hm) fun σ H Q => by
  rintro ⟨Z, Δ, L, K, w, s, t, q⟩
  refine ⟨Z, Δ, L, _, w, s, t, fun x L1 v1 H1 p1 w1 r1 t1 => ?_⟩
  refine ⟨Z, Δ, L1, _, w1, s.mono p1, t1, fun y L2 v2 H2 p2 w2 r2 t2 => ?_⟩
  refine hr Z _ _ _ _ _ _ _ _ w2 (r1.mono p2) r2 t2 fun z L3 v3 H3 p3 w3 r3 t3 => ?_
  split at t3
  · cases r3
    exact ⟨_, rfl, q _ _ _ ((p1.trans p2).trans p3) w3 t3⟩
  · exact t3.elim
theorem at_lt (ha : AE X a ta) (hb : AE X b tb) : ATE X (.Compare a [.Lt] [b] pos) (aB (aOp (oI0 fun i j => .bl (decide (i < j))) ta tb)) := at_cmp op_lt (ro_I0 fun _ _ _ _ _ => .bl _) ha hb (nomark _)
theorem at_le (ha : AE X a ta) (hb : AE X b tb) : ATE X (.Compare a [.LtE] [b] pos) (aB (aOp (oI0 fun i j => .bl (decide (i ≤ j))) ta tb)) := at_cmp op_le (ro_I0 fun _ _ _ _ _ => .bl _) ha hb (nomark _)
theorem at_gt (ha : AE X a ta) (hb : AE X b tb) : ATE X (.Compare a [.Gt] [b] pos) (aB (aOp (oI0 fun i j => .bl (decide (j < i))) ta tb)) := at_cmp op_gt (ro_I0 fun _ _ _ _ _ => .bl _) ha hb (nomark _)
theorem at_ge (ha : AE X a ta) (hb : AE X b tb) : ATE X (.Compare a [.GtE] [b] pos) (aB (aOp (oI0 fun i j => .bl (decide (j ≤ i))) ta tb)) := at_cmp op_ge (ro_I0 fun _ _ _ _ _ => .bl _) ha hb (nomark _)
theorem at_eq (hu : X.A.units + 64 < cLine) (ha : AE X a ta) (hb : AE X b tb) : ATE X (.Compare a [.Eq] [b] pos) (aB (aOp (oEq false) ta tb)) := at_cmp (op_eqD hu) ro_eq ha hb (nomark _)
theorem at_ne (hu : X.A.units + 64 < cLine) (ha : AE X a ta) (hb : AE X b tb) : ATE X (.Compare a [.NotEq] [b] pos) (aB (aOp (oEq true) ta tb)) := at_cmp (op_neD hu) ro_ne ha hb (nomark _)
theorem at_in (hu : X.A.units + 65 < cLine) (ha : AE X a ta) (hb : AE X b tb) (hm : behindInMarks .In b = false) : ATE X (.Compare a [.In] [b] pos) (aB (aOp (oIn false) ta tb)) := at_cmp (op_inA hu) (ro_in false) ha hb hm
theorem at_nin (hu : X.A.units + 65 < cLine) (ha : AE X a ta) (hb : AE X b tb) (hm : behindInMarks .NotIn b = false) : ATE X (.Compare a [.NotIn] [b] pos) (aB (aOp (oIn true) ta tb)) := at_cmp (op_notInA hu) (ro_in true) ha hb hm
theorem at_isN {j p} (ha : AE X a ta) : ATE X (.Compare a [.Is] [.Constant .none j p] pos) (aB (aIsN false ta)) := ptW (pt_cmp (pc_isN ha) rfl) fun σ H Q => by
  rintro ⟨Z, Δ, L, K, w, s, t, q⟩
  refine ⟨Z, Δ, L, _, w, s, t, fun x L1 v1 H1 p1 w1 r1 t1 => ?_⟩
  refine ⟨_, rfl, ?_⟩
  rw [isN_rep r1]
  exact q _ _ _ p1 w1 (by simpa using t1)
theorem at_notN {j p} (ha : AE X a ta) : ATE X (.Compare a [.IsNot] [.Constant .none j p] pos) (aB (aIsN true ta)) := ptW (pt_cmp (pc_notN ha) rfl) fun σ H Q => by
  rintro ⟨Z, Δ, L, K, w, s, t, q⟩
  refine ⟨Z, Δ, L, _, w, s, t, fun x L1 v1 H1 p1 w1 r1 t1 => ?_⟩
  refine ⟨_, rfl, ?_⟩
  rw [isN_rep r1]
  exact q _ _ _ p1 w1 (by simpa using t1)
def aAnd (t u : ATT) : ATT := fun Δ L K => t Δ L fun c L1 => (c = true → u Δ L1 K) ∧ (c = false → K false L1)
def aOr (t u : ATT) : ATT := fun Δ L K => t Δ L fun c L1 => (c = true → K true L1) ∧ (c = false → u Δ L1 K)
def aNot (t : ATT) : ATT := fun Δ L K => t Δ L fun c L1 => K (!c) L1
theorem liftT_and {t u : ATT} {σ : L2.St} {H : Hp} {Q : Bool → Hp → Prop} (h : liftT M (aAnd t u) σ H Q) : tAnd (liftT M t) (liftT M u) σ H Q := by
  obtain ⟨Z, Δ, L, K, w, s, t, q⟩ := h
  refine ⟨Z, Δ, L, _, w, s, t, fun x L1 H1 p1 w1 t1 => ?_⟩
  cases x with
  | true => exact iteT ⟨Z, Δ, L1, K, w1, s.mono p1, t1.1 rfl, q.after p1⟩
  | false => exact iteF (q _ _ _ p1 w1 (t1.2 rfl))
theorem liftT_or {t u : ATT} {σ : L2.St} {H : Hp} {Q : Bool → Hp → Prop} (h : liftT M (aOr t u) σ H Q) : tOr (liftT M t) (liftT M u) σ H Q := by
  obtain ⟨Z, Δ, L, K, w, s, t, q⟩ := h
  refine ⟨Z, Δ, L, _, w, s, t, fun x L1 H1 p1 w1 t1 => ?_⟩
  cases x with
  | true => exact iteT (q _ _ _ p1 w1 (t1.1 rfl))
  | false => exact iteF ⟨Z, Δ, L1, K, w1, s.mono p1, t1.2 rfl, q.after p1⟩
abbrev AW (X : Cx) (e : Expr) (t : ATT) : Prop := PW X e (liftT X.mo t)
theorem aw_and1 {t : ATT} (h : ATE X a t) : AW X (.BoolOp .And [a] pos) t := pw_and1 h
theorem aw_or1 {t : ATT} (h : ATE X a t) : AW X (.BoolOp .Or [a] pos) t := pw_or1 h
theorem aw_and {t u : ATT} (h : ATE X a t) (h2 : AW X (.BoolOp .And (b :: es) pos) u) : AW X (.BoolOp .And (a :: b :: es) pos) (aAnd t u) := pwW (pw_and h h2) fun _ _ _ => liftT_and
theorem aw_or {t u : ATT} (h : ATE X a t) (h2 : AW X (.BoolOp .Or (b :: es) pos) u) : AW X (.BoolOp .Or (a :: b :: es) pos) (aOr t u) := pwW (pw_or h h2) fun _ _ _ => liftT_or
theorem at_not {t : ATT} (h : ATE X a t) : ATE X (.UnaryOp .Not a pos) (aNot t) := ptW (pt_not h) fun σ H Q => by
  rintro ⟨Z, Δ, L, K, w, s, t, q⟩
  exact ⟨Z, Δ, L, _, w, s, t, fun x L1 H1 p1 w1 t1 => q _ _ _ p1 w1 t1⟩
/-- as values -/
def aAndV (t u : AT) : AT := fun Δ L K => t Δ L fun x L1 => match x with
  | .bl c => (c = true → u Δ L1 K) ∧ (c = false → K (.bl false) L1)
  | _ => False
def aOrV (t u : AT) : AT := fun Δ L K => t Δ L fun x L1 => match x with
  | .bl c => (c = true → K (.bl true) L1) ∧ (c = false → u Δ L1 K)
  | _ => False
def aNotV (t : AT) : AT := fun Δ L K => t Δ L fun x L1 => match x with
  | .bl c => K (.bl !c) L1
  | _ => False
theorem ae_one {op} {t : AT} (h : AE X a t) : AE X (.BoolOp op [a] pos) t := pe_one h
theorem ae_and (ha : AE X a ta) (hb : AE X (.BoolOp .And (b :: es) pos) tb) : AE X (.BoolOp .And (a :: b :: es) pos) (aAndV ta tb) := peW (pe_and ha hb) fun σ H Q => by
  rintro ⟨Z, Δ, L, K, w, s, t, q⟩
  refine ⟨Z, Δ, L, _, w, s, t, fun x L1 v1 H1 p1 w1 r1 t1 => ?_⟩
  split at t1
  · rename_i c
    cases r1
    refine ⟨c, rfl, ?_⟩
    cases c with
    | true => exact iteT ⟨Z, Δ, L1, K, w1, s.mono p1, t1.1 rfl, q.after p1⟩
    | false => exact iteF (q _ _ _ _ p1 w1 (.bl _) (t1.2 rfl))
  · exact t1.elim
theorem ae_or (ha : AE X a ta) (hb : AE X (.BoolOp .Or (b :: es) pos) tb) : AE X (.BoolOp .Or (a :: b :: es) pos) (aOrV ta tb) := peW (pe_or ha hb) fun σ H Q => by
  rintro ⟨Z, Δ, L, K, w, s, t, q⟩
  refine ⟨Z, Δ, L, _, w, s, t, fun x L1 v1 H1 p1 w1 r1 t1 => ?_⟩
  split at t1
  · rename_i c
    cases r1
    refine ⟨c, rfl, ?_⟩
    cases c with
    | true => exact iteT (q _ _ _ _ p1 w1 (.bl _) (t1.1 rfl))
    | false => exact iteF ⟨Z, Δ, L1, K, w1, s.mono p1, t1.2 rfl, q.after p1⟩
  · exact t1.elim
theorem ae_not (ha : AE X a ta) : AE X (.UnaryOp .Not a pos) (aNotV ta) := peW (pe_not ha) fun σ H Q => by
  rintro ⟨Z, Δ, L, K, w, s, t, q⟩
  refine ⟨Z, Δ, L, _, w, s, t, fun x L1 v1 H1 p1 w1 r1 t1 => ?_⟩
  split at t1
  · rename_i c
    cases r1
    exact ⟨c, rfl, q _ _ _ _ p1 w1 (.bl _) t1⟩
  · exact t1.elim
def aIf (t : ATT) (u v : AT) : AT := fun Δ L K => t Δ L fun c L1 => (c = true → u Δ L1 K) ∧ (c = false → v Δ L1 K)
theorem ae_ifExp {t : ATT} (hc : ATE X c t) (ha : AE X a ta) (hb : AE X b tb) : AE X (.IfExp c a b pos) (aIf t ta tb) := peW (pe_ifExp hc ha hb) fun σ H Q => by
  rintro ⟨Z, Δ, L, K, w, s, t, q⟩
  refine ⟨Z, Δ, L, _, w, s, t, fun x L1 H1 p1 w1 t1 => ?_⟩
  cases x with
  | true => exact iteT ⟨Z, Δ, L1, K, w1, s.mono p1, t1.1 rfl, q.after p1⟩
  | false => exact iteF ⟨Z, Δ, L1, K, w1, s.mono p1, t1.2 rfl, q.after p1⟩
/-- a chain of two comparisons of ints; the third part a name or a constant -/
def Pu (t : AT) : Prop := ∀ Δ L K, t Δ L K → ∃ d, K d L
theorem pu_var {i : Nat} : Pu (aVar i) := fun Δ L K h => by
  unfold aVar at h
  split at h
  · exact ⟨_, h⟩
  · exact h.elim
theorem pu_c {d : D} : Pu (aC d) := fun Δ L K h => ⟨_, h⟩
def aCh (p r : Int → Int → Bool) (ta tb tc : AT) : AT := fun Δ L K => ta Δ L fun x L1 => tb Δ L1 fun y L2 => tc Δ L2 fun z L3 => match x, y, z with
  | .int i, .int j, .int k => K (.bl (p i j && r j k)) L3
  | _, _, _ => False
theorem lift_ch {p r : Int → Int → Bool} (hp : Pu tc) {σ : L2.St} {H : Hp} {Q : VK} (h : lift M (aCh p r ta tb tc) σ H Q) :
    tChain (rI0 fun i j => .bl (p i j)) (rI0 fun i j => .bl (r i j)) (lift M ta) (lift M tb) (lift M tc) σ H Q := by
  obtain ⟨Z, Δ, L, K, w, s, t, q⟩ := h
  refine ⟨Z, Δ, L, _, w, s, t, fun x L1 v1 H1 p1 w1 r1 t1 => ?_⟩
  refine ⟨Z, Δ, L1, _, w1, s.mono p1, t1, fun y L2 v2 H2 p2 w2 r2 t2 => ?_⟩
  obtain ⟨z, t3⟩ := hp _ _ _ t2
  have r1 := r1.mono p2
  cases x with
  | int i =>
    cases y with
    | int j =>
      cases z with
      | int k =>
        cases r1; cases r2
        refine ⟨i, j, rfl, rfl, p i j, rfl, ?_⟩
        cases e : p i j with
        | false =>
          have t3 : K (.bl (p i j && r j k)) L2 := t3
          rw [e] at t3
          exact iteF (q _ _ _ _ (p1.trans p2) w2 (.bl false) t3)
        | true =>
          refine iteT ⟨Z, Δ, L2, _, w2, s.mono (p1.trans p2), t2, fun z L3 v3 H3 p3 w3 r3 t4 => ?_⟩
          cases z with
          | int k2 =>
            cases r3
            refine ⟨j, k2, rfl, rfl, ?_⟩
            have t4 : K (.bl (p i j && r j k2)) L3 := t4
            rw [e] at t4
            exact q _ _ _ _ ((p1.trans p2).trans p3) w3 (.bl _) (by simpa using t4)
          | _ => exact t4.elim
      | _ => exact t3.elim
    | _ => exact t3.elim
  | _ => exact t3.elim
theorem ae_ch {op op' : CmpOp} {p r : Int → Int → Bool} (ho : OpR X (compareOp op) (rI0 fun i j => .bl (p i j))) (ho' : OpR X (compareOp op') (rI0 fun i j => .bl (r i j))) (hp : Pu tc) (ha : AE X a ta) (hb : AE X b tb) (hc : AE X c tc)
    (hm : lastMarks [op, op'] [b, c] = false := by with_unfolding_all rfl) : AE X (.Compare a [op, op'] [b, c] pos) (aCh p r ta tb tc) := peW (pe_chain ho ho' ha hb hc hm) fun _ _ _ => lift_ch hp
theorem at_ch {op op' : CmpOp} {p r : Int → Int → Bool} (ho : OpR X (compareOp op) (rI0 fun i j => .bl (p i j))) (ho' : OpR X (compareOp op') (rI0 fun i j => .bl (r i j))) (hp : Pu tc) (ha : AE X a ta) (hb : AE X b tb) (hc : AE X c tc)
    (hm : lastMarks [op, op'] [b, c] = false := by with_unfolding_all rfl) : ATE X (.Compare a [op, op'] [b, c] pos) (aB (aCh p r ta tb tc)) := ptW (pt_chain ho ho' ha hb hc hm) fun σ H Q => by
  rintro ⟨Z, Δ, L, K, w, s, t, q⟩
  refine lift_ch hp ⟨Z, Δ, L, _, w, s, t, fun x L1 v1 H1 p1 w1 r1 t1 => ?_⟩
  split at t1
  · cases r1
    exact ⟨_, rfl, q _ _ _ p1 w1 t1⟩
  · exact t1.elim
end
end Wv

namespace Wv
open PySem PySem.Spec PyProof.Rows L2

/-! ## arguments, displays, calls -/
section
variable {X : Cx} {e a b c : Expr} {es : List Expr} {pos : Pos} {ta tb tc : AT} {tr : ATA} {M : Mo}
def aNil : ATA := fun _ L K => K [] L
def aCons (ta : AT) (tr : ATA) : ATA := fun Δ L K => ta Δ L fun x L1 => tr Δ L1 fun xs L2 => K (x :: xs) L2
theorem aa_nil : AA X [] aNil := paW pa_nil fun σ H Q => by
  rintro ⟨Z, Δ, L, K, w, s, t, q⟩
  exact q _ _ _ _ (Pers.refl L H) w .nil t
theorem liftA_cons {σ : L2.St} {H : Hp} {Q : List V → Hp → Prop} (h : liftA M (aCons ta tr) σ H Q) : tCons (lift M ta) (liftA M tr) σ H Q := by
  obtain ⟨Z, Δ, L, K, w, s, t, q⟩ := h
  refine ⟨Z, Δ, L, _, w, s, t, fun x L1 v1 H1 p1 w1 r1 t1 => ?_⟩
  exact ⟨Z, Δ, L1, _, w1, s.mono p1, t1, fun xs L2 vs H2 p2 w2 r2 t2 => q _ _ _ _ (p1.trans p2) w2 (.cons (r1.mono p2) r2) t2⟩
theorem aa_cons (ha : AE X e ta) (hr : AA X es tr) (hs : starEach (e :: es) X.env = (false, eval e X.env) :: starEach es X.env := by rfl) : AA X (e :: es) (aCons ta tr) :=
  paW (pa_cons ha hr hs) fun _ _ _ => liftA_cons
def aTup (tr : ATA) : AT := fun Δ L K => tr Δ L fun ds L1 => ds.length ≤ 1000000 ∧ K (.tup ds) L1
def aLst (tr : ATA) : AT := fun Δ L K => tr Δ L fun ds L1 => ds.length ≤ 1000000 ∧ K (.lst ds) L1
def aLstM (tr : ATA) : AT := fun Δ L K => tr Δ L fun ds L1 => ds.length ≤ 1000000 ∧ ∀ p, L1 p = none → K (.ref p) (put L1 p (.lst ds))
theorem ae_tup {x1} (h : AA X es tr) : AE X (.Tuple es x1 pos) (aTup tr) := peW (pe_tup h) fun σ H Q => by
  rintro ⟨Z, Δ, L, K, w, s, t, q⟩
  refine ⟨Z, Δ, L, _, w, s, t, fun ds L1 vs H1 p1 w1 r1 t1 => ⟨sz (by rw [← r1.length]; exact t1.1), fun p hp => ?_⟩⟩
  have P : Pers L1 H1 L1 (upd H1 p (.tup vs)) := Pers.new hp
  exact q _ _ _ _ (p1.trans P) (w1.new hp) (.tup (w1.fresh hp) upd_same (r1.mono P)) t1.2
theorem new_lst {L : Lg} {H : Hp} {ds : List D} {vs : List V} {K : AK} {Q : VK} (w : Wd M L H) (r : Reps M L H ds vs) (k : K (.lst ds) L) (q : Post M L H K Q) {p : Addr} (hp : H p = none) : Q (.ref p) (upd H p (.lst vs)) := by
  have P : Pers L H L (upd H p (.lst vs)) := Pers.new hp
  exact q _ _ _ _ P (w.new hp) (.lst (.inl ⟨w.fresh hp, .inl upd_same⟩) (r.mono P)) k
theorem new_tup {L : Lg} {H : Hp} {ds : List D} {vs : List V} {K : AK} {Q : VK} (w : Wd M L H) (r : Reps M L H ds vs) (k : K (.tup ds) L) (q : Post M L H K Q) {p : Addr} (hp : H p = none) : Q (.ref p) (upd H p (.tup vs)) := by
  have P : Pers L H L (upd H p (.tup vs)) := Pers.new hp
  exact q _ _ _ _ P (w.new hp) (.tup (w.fresh hp) upd_same (r.mono P)) k
theorem new_lstM {L : Lg} {H : Hp} {ds : List D} {vs : List V} {K : AK} {Q : VK} (w : Wd M L H) (r : Reps M L H ds vs) (k : ∀ p, L p = none → K (.ref p) (put L p (.lst ds))) (q : Post M L H K Q) {p : Addr} (hp : H p = none) : Q (.ref p) (upd H p (.lst vs)) := by
  have P : Pers L H (put L p (.lst ds)) (upd H p (.lst vs)) := Pers.newL hp
  exact q _ _ _ _ P (w.newL hp ⟨vs, upd_same, r.mono P⟩) (.ref p) (k p (w.fresh hp).1)
theorem ae_lst (h : AA X es tr) : AE X (.List es pos) (aLst tr) := peW (pe_lst h) fun σ H Q => by
  rintro ⟨Z, Δ, L, K, w, s, t, q⟩
  exact ⟨Z, Δ, L, _, w, s, t, fun ds L1 vs H1 p1 w1 r1 t1 => ⟨sz (by rw [← r1.length]; exact t1.1), fun p hp => new_lst w1 r1 t1.2 (q.after p1) hp⟩⟩
theorem ae_lstM (h : AA X es tr) : AE X (.List es pos) (aLstM tr) := peW (pe_lst h) fun σ H Q => by
  rintro ⟨Z, Δ, L, K, w, s, t, q⟩
  exact ⟨Z, Δ, L, _, w, s, t, fun ds L1 vs H1 p1 w1 r1 t1 => ⟨sz (by rw [← r1.length]; exact t1.1), fun p hp => new_lstM w1 r1 t1.2 (q.after p1) hp⟩⟩
/-- a list of the ledger that will not change any more -/
def aFrz (t : AT) : AT := fun Δ L K => t Δ L fun x L1 => match x with
  | .ref p => match L1 p with
    | some (.lst ds) => K (.lst ds) (del L1 p)
    | _ => False
  | _ => False
theorem ae_frz (h : AE X e ta) : AE X e (aFrz ta) := peW h fun σ H Q => by
  rintro ⟨Z, Δ, L, K, w, s, t, q⟩
  refine ⟨Z, Δ, L, _, w, s, t, fun x L1 v1 H1 p1 w1 r1 t1 => ?_⟩
  cases x with
  | ref p =>
    simp only at t1
    split at t1
    · rename_i ds e
      cases r1
      obtain ⟨xs, h1, rs⟩ := w1.cell p _ e
      have P : Pers L1 H1 (del L1 p) H1 := Pers.del
      exact q _ _ _ _ (p1.trans P) w1.del (.lst (.inl ⟨w1.free_del e, .inl h1⟩) (rs.mono P)) t1
    · exact t1.elim
  | _ => exact t1.elim

/-! ## a def's promise, abstract -/
abbrev ASp := List D → Lg → AK → Prop
def spOf (M : Mo) (A : ASp) : Sp := fun vs H Q _ => ∃ Z ds L K, Wd (M.z Z) L H ∧ Reps (M.z Z) L H ds vs ∧ A ds L K ∧ Post (M.z Z) L H K Q
def aCall (A : ASp) (tr : ATA) : AT := fun Δ L K => tr Δ L fun ds L1 => A ds L1 K
theorem lift_call {A : ASp} {E : XK} {σ : L2.St} {H : Hp} {Q : VK} (h : lift M (aCall A tr) σ H Q) : tCall (spOf M A) [] E (liftA M tr) σ H Q := by
  obtain ⟨Z, Δ, L, K, w, s, t, q⟩ := h
  refine ⟨Z, Δ, L, _, w, s, t, fun ds L1 vs H1 p1 w1 r1 t1 => ?_⟩
  show spOf M A (vs ++ []) H1 Q E
  rw [List.append_nil]
  exact ⟨Z, ds, L1, K, w1, r1, t1, q.after p1⟩
section
variable {k : Nat} {f : Addr} {fd : FuncData} {ps : List Str} {A : ASp} {x : Str} {p : Pos}
theorem ae_call (F : FnOk X.prog X.w X.K X.mg X.base CX0 k f fd ps (spOf X.mo A)) (hr : Room k X.A) (hg : Gl X x) (hm : X.mg x = some (.ref f)) (hk : PySem.W.keepIn X.K (.ref f) = true) (hb : Binds X.K fd ps [])
    (ha : AA X (e :: es) tr) (hdb : (x == ("__debug__" : Str)) = false := by decide) (he : starEach (e :: es) X.env = (false, eval e X.env) :: starEach es X.env := by rfl) (hpl : (backTo pos (starEach es X.env)).any (·.1) = false := by rfl) :
    AE X (.Call (.Name x p) (e :: es) [] pos) (aCall A tr) := peW (pe_call F hr hg hm hk hb .nil pass0 ha hdb he hpl) fun _ _ _ => lift_call
theorem ae_call0 (F : FnOk X.prog X.w X.K X.mg X.base CX0 k f fd ps (spOf X.mo A)) (hr : Room k X.A) (hg : Gl X x) (hm : X.mg x = some (.ref f)) (hk : PySem.W.keepIn X.K (.ref f) = true) (hb : Binds X.K fd ps [])
    (hdb : (x == ("__debug__" : Str)) = false := by decide) : AE X (.Call (.Name x p) [] [] pos) (aCall A aNil) := peW (pe_call0 F hr hg hm hk hb .nil pass0 hdb) fun σ H Q => by
  rintro ⟨Z, Δ, L, K, w, s, t, q⟩
  exact ⟨Z, [], L, K, w, .nil, t, q⟩
end
/-- a def by its body -/
def startD (N : List Str) (ds : List D) : Sg := ds.map some ++ List.replicate (N.length - ds.length) none
theorem sl_start {L : Lg} {H : Hp} {N : List Str} {ds : List D} {vs : List V} (r : Reps M L H ds vs) : Sl M L H (startD N ds) (L2.start N vs) := by
  have hl := r.length
  refine ⟨by simp [startD, L2.start, hl], fun i d h => ?_⟩
  unfold startD at h
  unfold L2.start
  rw [List.getElem?_append] at h ⊢
  rw [List.length_map] at h ⊢
  by_cases c : i < ds.length
  · rw [if_pos c] at h
    rw [if_pos (hl ▸ c)]
    rw [List.getElem?_map] at h
    obtain ⟨d', h1, h2⟩ := Option.map_eq_some_iff.mp h
    cases h2
    obtain ⟨v, e, rv⟩ := r.get h1
    exact ⟨v, by rw [List.getElem?_map, e]; rfl, rv⟩
  · rw [if_neg c, List.getElem?_replicate] at h
    split at h <;> cases h
theorem okA {P : Program} {w : World} {K : PySem.W.Frag} {mg : Str → Option Value} {base : Heap} {x qual : Str} {st : Stmt} {f : Addr} {fd : FuncData} {N ps : List Str} {k : Nat} {A : ASp} (F : Fun K x qual st f fd) (S : FnScope N ps (defScope st))
    (len : ∀ ds L Kk, A ds L Kk → ds.length = ps.length)
    (hbody : ∀ (cdv : Value) (Ar : Around) (outer : List Env) (s : Shared) (H : Hp) (E : XK), Room k (Ar.deeper (envOfC qual (defScope st) s.heap.objs.size f cdv)) →
      ∃ t : ATS, ASs (cxOf CX0 P w K mg base N qual (defScope st) f cdv Ar outer s H E).nox (defBody st) t ∧ ∀ ds L Kk, A ds L Kk → t { nx := fun _ L' => Kk .non L', rt := Kk } (startD N ds) L) :
    FnOk P w K mg base CX0 (k + 1) f fd ps (spOf (mo P w K) A) := by
  refine F.ok S (fun vs H Q E h => ?_) (fun cdv Ar outer s H vs Q E hr h => ?_)
  · obtain ⟨Z, ds, L, Kk, _, r, a, _⟩ := h
    rw [← r.length]
    exact len _ _ _ a
  · obtain ⟨t, ht, hq⟩ := hbody cdv Ar outer s H E hr
    obtain ⟨Z, ds, L, Kk, wd, r, a, q⟩ := h
    refine ⟨_, ht, Z, startD N ds, L, _, wd, sl_start r, hq _ _ _ a, ?_, q, ?_, ?_⟩
    · intro Δ' L' σ' H' p' w' s' h'
      exact q _ _ _ _ p' w' .non h'
    · intro _ _ _ _ _ _ _ h'
      exact h'.elim
    · intro _ _ _ _ _ _ _ h'
      exact h'.elim

/-! ## built-in functions -/
abbrev ARC := List D → Lg → AK → Prop
def RC (M : Mo) (r : List V → Hp → VK → Prop) (ρ : ARC) : Prop := ∀ Z ds vs L H K Q, Wd (M.z Z) L H → Reps (M.z Z) L H ds vs → ρ ds L K → Post (M.z Z) L H K Q → r vs H Q
theorem lift_CB {r : List V → Hp → VK → Prop} {ρ : ARC} (hr : RC M r ρ) {σ : L2.St} {H : Hp} {Q : VK} (h : lift M (aCall ρ tr) σ H Q) : tCB r (liftA M tr) σ H Q := by
  obtain ⟨Z, Δ, L, K, w, s, t, q⟩ := h
  exact ⟨Z, Δ, L, _, w, s, t, fun ds L1 vs H1 p1 w1 r1 t1 => hr Z _ _ _ _ _ _ w1 r1 t1 (q.after p1)⟩
section
variable {x : Str} {p : Pos} {id T : String} {r : List V → Hp → VK → Prop} {ρ : ARC}
theorem ae_B (hc : CallR X (.builtin id) r) (hR : RC X.mo r ρ) (hg : Gl X x) (hm : X.mg x = none) (hv : bootBuiltins x = some (.builtin id)) (ha : AA X (e :: es) tr) (hn : x ≠ "__name__" := by decide) (hdb : (x == ("__debug__" : Str)) = false := by decide)
    (he : starEach (e :: es) X.env = (false, eval e X.env) :: starEach es X.env := by rfl) (hpl : (backTo pos (starEach es X.env)).any (·.1) = false := by rfl) : AE X (.Call (.Name x p) (e :: es) [] pos) (aCall ρ tr) :=
  peW (pe_callB hc hg hm hv ha hn hdb he hpl) fun _ _ _ => lift_CB hR
theorem ae_Ty (hc : CallR X (.type T) r) (hR : RC X.mo r ρ) (hg : Gl X x) (hm : X.mg x = none) (hv : bootBuiltins x = some (.type T)) (ha : AA X (e :: es) tr) (hn : x ≠ "__name__" := by decide) (hdb : (x == ("__debug__" : Str)) = false := by decide)
    (he : starEach (e :: es) X.env = (false, eval e X.env) :: starEach es X.env := by rfl) (hpl : (backTo pos (starEach es X.env)).any (·.1) = false := by rfl) : AE X (.Call (.Name x p) (e :: es) [] pos) (aCall ρ tr) :=
  peW (pe_callTy hc hg hm hv ha hn hdb he hpl) fun _ _ _ => lift_CB hR
end
/-- len -/
def cLen : ARC := fun ds L K => match ds with
  | [d] => match see L d with
    | .lst xs => K (.int xs.length) L
    | .tup xs => K (.int xs.length) L
    | _ => False
  | _ => False
theorem reps1 {L : Lg} {H : Hp} {d : D} {vs : List V} (r : Reps M L H [d] vs) : ∃ v, vs = [v] ∧ Rep M L H d v := by
  cases r with
  | cons a b => cases b; exact ⟨_, rfl, a⟩
theorem reps2 {L : Lg} {H : Hp} {d e : D} {vs : List V} (r : Reps M L H [d, e] vs) : ∃ v w, vs = [v, w] ∧ Rep M L H d v ∧ Rep M L H e w := by
  cases r with
  | cons a b =>
    cases b with
    | cons a2 b2 => cases b2; exact ⟨_, _, rfl, a, a2⟩
theorem rc_len : RC M (fun xs H Q => ∃ p ys, xs = [.ref p] ∧ (SqL M.K H p ys ∨ SqT M.K H p ys) ∧ Q (.int ys.length) H) cLen := by
  intro Z ds vs L H K Q W r t q
  unfold cLen at t
  split at t
  · obtain ⟨v, rfl, r1⟩ := reps1 r
    split at t
    · rename_i xs e
      obtain ⟨a, ys, rfl, h, rs⟩ := rep_lst W r1 e
      exact ⟨a, ys, rfl, .inl h, by rw [← rs.length]; exact q _ _ _ _ (Pers.refl L H) W (.int _) t⟩
    · rename_i xs e
      obtain ⟨a, ys, rfl, _, h, rs⟩ := rep_tup r1 e
      exact ⟨a, ys, rfl, .inr (SqT.of h), by rw [← rs.length]; exact q _ _ _ _ (Pers.refl L H) W (.int _) t⟩
    · exact t.elim
  · exact t.elim
theorem ae_len {p : Pos} (hg : Gl X "len") (hm : X.mg "len" = none) (ha : AE X e ta) (hs : starEach [e] X.env = (false, eval e X.env) :: starEach [] X.env := by rfl) : AE X (.Call (.Name "len" p) [e] [] pos) (aCall cLen (aCons ta aNil)) :=
  ae_B call_len_seq rc_len hg hm PySem.boot_len (aa_cons ha aa_nil hs) (he := hs)
/-- lists of bools, of ints -/
def asBls : List D → Option (List Bool)
  | [] => some []
  | .bl b :: ds => (asBls ds).map (b :: ·)
  | _ => none
def asInts : List D → Option (List Int)
  | [] => some []
  | .int b :: ds => (asInts ds).map (b :: ·)
  | _ => none
theorem asBls_map {α : Type} (f : α → Bool) : ∀ xs : List α, asBls (xs.map fun x => D.bl (f x)) = some (xs.map f)
  | [] => rfl
  | x :: xs => by show (asBls (xs.map fun x => D.bl (f x))).map _ = _; rw [asBls_map f xs]; rfl
theorem asInts_map {α : Type} (f : α → Int) : ∀ xs : List α, asInts (xs.map fun x => D.int (f x)) = some (xs.map f)
  | [] => rfl
  | x :: xs => by show (asInts (xs.map fun x => D.int (f x))).map _ = _; rw [asInts_map f xs]; rfl
theorem asInts_ints (xs : List Int) : asInts (xs.map D.int) = some xs := by
  have h := asInts_map (fun x : Int => x) xs
  simpa using h
theorem asBls_bls (xs : List Bool) : asBls (xs.map D.bl) = some xs := by
  have h := asBls_map (fun x : Bool => x) xs
  simpa using h
theorem asBls_eq : ∀ {ds : List D} {bs : List Bool}, asBls ds = some bs → ds = bs.map D.bl
  | [], _, h => by cases h; rfl
  | .bl b :: ds, _, h => by
    obtain ⟨cs, h1, h2⟩ := Option.map_eq_some_iff.mp (show (asBls ds).map (b :: ·) = some _ from h)
    subst h2
    rw [asBls_eq h1]; rfl
  | .non :: _, _, h => by cases h
  | .int _ :: _, _, h => by cases h
  | .str _ :: _, _, h => by cases h
  | .tup _ :: _, _, h => by cases h
  | .lst _ :: _, _, h => by cases h
  | .ref _ :: _, _, h => by cases h
theorem asInts_eq : ∀ {ds : List D} {bs : List Int}, asInts ds = some bs → ds = bs.map D.int
  | [], _, h => by cases h; rfl
  | .int b :: ds, _, h => by
    obtain ⟨cs, h1, h2⟩ := Option.map_eq_some_iff.mp (show (asInts ds).map (b :: ·) = some _ from h)
    subst h2
    rw [asInts_eq h1]; rfl
  | .non :: _, _, h => by cases h
  | .bl _ :: _, _, h => by cases h
  | .str _ :: _, _, h => by cases h
  | .tup _ :: _, _, h => by cases h
  | .lst _ :: _, _, h => by cases h
  | .ref _ :: _, _, h => by cases h
def cAll : ARC := fun ds L K => match ds with
  | [d] => match see L d with
    | .lst xs => match asBls xs with
      | some bs => K (.bl (bs.all id)) L
      | none => False
    | _ => False
  | _ => False
def cAny : ARC := fun ds L K => match ds with
  | [d] => match see L d with
    | .lst xs => match asBls xs with
      | some bs => K (.bl (bs.any id)) L
      | none => False
    | _ => False
  | _ => False
theorem rc_all : RC M (rAll M.K) cAll := by
  intro Z ds vs L H K Q W r t q
  unfold cAll at t
  split at t
  · obtain ⟨v, rfl, r1⟩ := reps1 r
    split at t
    · rename_i xs e
      obtain ⟨a, ys, rfl, h, rs⟩ := rep_lst W r1 e
      split at t
      · rename_i bs eb
        rw [asBls_eq eb] at rs
        rw [rs.bls] at h
        exact ⟨a, bs, rfl, h, q _ _ _ _ (Pers.refl L H) W (.bl _) t⟩
      · exact t.elim
    · exact t.elim
  · exact t.elim
theorem rc_any : RC M (rAny M.K) cAny := by
  intro Z ds vs L H K Q W r t q
  unfold cAny at t
  split at t
  · obtain ⟨v, rfl, r1⟩ := reps1 r
    split at t
    · rename_i xs e
      obtain ⟨a, ys, rfl, h, rs⟩ := rep_lst W r1 e
      split at t
      · rename_i bs eb
        rw [asBls_eq eb] at rs
        rw [rs.bls] at h
        exact ⟨a, bs, rfl, h, q _ _ _ _ (Pers.refl L H) W (.bl _) t⟩
      · exact t.elim
    · exact t.elim
  · exact t.elim
theorem ae_all {p : Pos} (hc : X.calm = true) (hg : Gl X "all") (hm : X.mg "all" = none) (ha : AE X e ta) (hs : starEach [e] X.env = (false, eval e X.env) :: starEach [] X.env := by rfl) : AE X (.Call (.Name "all" p) [e] [] pos) (aCall cAll (aCons ta aNil)) :=
  ae_B (cr_all hc) rc_all hg hm (by decide +kernel) (aa_cons ha aa_nil hs) (he := hs)
theorem ae_any {p : Pos} (hc : X.calm = true) (hg : Gl X "any") (hm : X.mg "any" = none) (ha : AE X e ta) (hs : starEach [e] X.env = (false, eval e X.env) :: starEach [] X.env := by rfl) : AE X (.Call (.Name "any" p) [e] [] pos) (aCall cAny (aCons ta aNil)) :=
  ae_B (cr_any hc) rc_any hg hm (by decide +kernel) (aa_cons ha aa_nil hs) (he := hs)
/-- isinstance(x, T), T built in -/
def tyD (L : Lg) : D → String
  | .non => "NoneType" | .bl _ => "bool" | .int _ => "int" | .str _ => "str" | .tup _ => "tuple" | .lst _ => "list"
  | .ref p => match L p with
    | some (.lst _) => "list"
    | _ => ""
def isiD (T : String) (ty : String) : Bool := ty == T || (T == "int" && ty == "bool")
def aIsi (T : String) (ta : AT) : AT := fun Δ L K => ta Δ L fun d L1 => tyD L1 d ≠ "" ∧ K (.bl (isiD T (tyD L1 d))) L1
theorem tyX_of {L : Lg} {H : Hp} {d : D} {v : V} (w : Wd M L H) (r : Rep M L H d v) (h : tyD L d ≠ "") : TyX M.K H v (.type (tyD L d)) := by
  cases r with
  | non => exact .base .non
  | bl b => exact .base (.bl b)
  | int i => exact .base (.int i)
  | str x => exact .base (.str x)
  | tup a b c => exact .base (.tup b)
  | lst a c =>
    rcases a with ⟨_, e | ⟨o, e⟩⟩ | ⟨o, its, n, e, c, _⟩
    · exact .base (.lst e)
    · exact .base (.frz e)
    · exact .kList e c
  | ref p =>
    cases e : L p with
    | none => exact absurd (by simp only [tyD, e]) h
    | some c =>
      cases c with
      | lst ds =>
        obtain ⟨xs, hx, _⟩ := w.cell p _ e
        rw [show tyD L (.ref p) = "list" by simp only [tyD, e]]
        exact .base (.lst hx)
      | dct _ => exact absurd (by simp only [tyD, e]) h
      | ins _ _ => exact absurd (by simp only [tyD, e]) h
      | tab _ => exact absurd (by simp only [tyD, e]) h
theorem tyD_cases (L : Lg) (d : D) : tyD L d = "NoneType" ∨ tyD L d = "bool" ∨ tyD L d = "int" ∨ tyD L d = "str" ∨ tyD L d = "tuple" ∨ tyD L d = "list" ∨ tyD L d = "" := by
  cases d with
  | ref p =>
    cases e : L p with
    | none => simp [tyD, e]
    | some c => cases c <;> simp [tyD, e]
  | _ => simp [tyD]
theorem kitB_ok {T ty : String} (hT : T = "int" ∨ T = "bool" ∨ T = "str" ∨ T = "list" ∨ T = "tuple") (hy : ty = "NoneType" ∨ ty = "bool" ∨ ty = "int" ∨ ty = "str" ∨ ty = "tuple" ∨ ty = "list") : kitB ty T = some (isiD T ty) := by
  rcases hT with rfl | rfl | rfl | rfl | rfl <;> rcases hy with rfl | rfl | rfl | rfl | rfl | rfl <;> decide +kernel
theorem ae_isi {T : String} {x : Str} {p p2 : Pos} (hT : T = "int" ∨ T = "bool" ∨ T = "str" ∨ T = "list" ∨ T = "tuple") (hg : Gl X "isinstance") (hm : X.mg "isinstance" = none) (hgx : Gl X x) (hmx : X.mg x = none) (hx : bootBuiltins x = some (.type T)) (ha : AE X e ta)
    (hn : x ≠ "__name__" := by decide) (hdb : (x == ("__debug__" : Str)) = false := by decide)
    (h1 : starEach [e, .Name x p2] X.env = (false, eval e X.env) :: starEach [.Name x p2] X.env := by rfl) (h2 : starEach [.Name x p2] X.env = (false, eval (.Name x p2) X.env) :: starEach [] X.env := by rfl)
    (hpl : (backTo pos (starEach [.Name x p2] X.env)).any (·.1) = false := by rfl) : AE X (.Call (.Name "isinstance" p) [e, .Name x p2] [] pos) (aIsi T ta) :=
  peW (pe_callB call_isi hg hm (by decide +kernel) (pa_cons ha (pa_cons (pe_bltn (v := .ty T) hgx hmx hx rfl hn hdb) pa_nil h2) h1) (by decide) (by decide) h1 hpl) fun σ H Q => by
  rintro ⟨Z, Δ, L, K, w, s, t, q⟩
  refine ⟨Z, Δ, L, _, w, s, t, fun d L1 v H1 p1 w1 r1 t1 => ?_⟩
  refine ⟨v, .ty T, .type (tyD L1 d), .type T, isiD T (tyD L1 d), rfl, .ty T, tyX_of w1 r1 t1.1, kit_ty (kitB_ok hT ?_), q _ _ _ _ p1 w1 (.bl _) t1.2⟩
  have := tyD_cases L1 d
  have h := t1.1
  simp only [h, or_false] at this
  exact this
end
end Wv

namespace Wv
open PySem PySem.Spec PyProof.Rows L2

/-! ## statements -/
section
variable {X : Cx} {e a b c : Expr} {es : List Expr} {st : Stmt} {sts : List Stmt} {pos : Pos} {ta tb tc : AT} {tr : ATA} {M : Mo}
def aNext : ATS := fun A Δ L => A.nx Δ L
def aSeq (t u : ATS) : ATS := fun A Δ L => t { A with nx := u A } Δ L
def aBreak : ATS := fun A Δ L => A.bk Δ L
def aCont : ATS := fun A Δ L => A.ct Δ L
def aRet (t : AT) : ATS := fun A Δ L => t Δ L A.rt
def aDrop (t : AT) : ATS := fun A Δ L => t Δ L fun _ L1 => A.nx Δ L1
def aIfS (t : ATT) (u v : ATS) : ATS := fun A Δ L => t Δ L fun c L1 => (c = true → u A Δ L1) ∧ (c = false → v A Δ L1)
def aNever : ATS := fun _ _ _ => False
theorem as_nil : ASs X [] aNext := pssW pss_nil fun E σ H => by
  rintro ⟨Z, Δ, L, A, w, s, t, q⟩
  exact q.1 _ _ _ _ (Pers.refl L H) w s t
theorem liftS_seq {t u : ATS} {E : Ends} {σ : L2.St} {H : Hp} (h : liftS M (aSeq t u) E σ H) : tSeq (liftS M t) (liftS M u) E σ H := by
  obtain ⟨Z, Δ, L, A, w, s, t, q⟩ := h
  refine ⟨Z, Δ, L, _, w, s, t, ?_, q.2.1, q.2.2.1, q.2.2.2⟩
  intro Δ' L' σ' H' p' w' s' h'
  exact ⟨Z, Δ', L', A, w', s', h', q.after p'⟩
theorem as_cons {t u : ATS} (h1 : AS X st t) (h2 : ASs X sts u) : ASs X (st :: sts) (aSeq t u) := pssW (pss_cons h1 h2) fun _ _ _ => liftS_seq
theorem as_one {t : ATS} (h1 : AS X st t) : ASs X [st] t := pss_one h1
theorem as_pass : AS X (.Pass pos) aNext := psW ps_pass fun E σ H => by
  rintro ⟨Z, Δ, L, A, w, s, t, q⟩
  exact q.1 _ _ _ _ (Pers.refl L H) w s t
theorem as_break : AS X (.Break pos) aBreak := psW ps_break fun E σ H => by
  rintro ⟨Z, Δ, L, A, w, s, t, q⟩
  exact q.2.2.1 _ _ _ _ (Pers.refl L H) w s t
theorem as_cont : AS X (.Continue pos) aCont := psW ps_continue fun E σ H => by
  rintro ⟨Z, Δ, L, A, w, s, t, q⟩
  exact q.2.2.2 _ _ _ _ (Pers.refl L H) w s t
theorem as_ret (h : AE X e ta) : AS X (.Return (some e) pos) (aRet ta) := psW (ps_ret h) fun E σ H => by
  rintro ⟨Z, Δ, L, A, w, s, t, q⟩
  exact ⟨Z, Δ, L, _, w, s, t, q.2.1⟩
theorem as_expr (h : AE X e ta) (hs : swapsWith e none pos.line X.env = pure false := by rfl) : AS X (.Expr e pos) (aDrop ta) := psW (ps_expr h hs) fun E σ H => by
  rintro ⟨Z, Δ, L, A, w, s, t, q⟩
  exact ⟨Z, Δ, L, _, w, s, t, fun d L1 v H1 p1 w1 r1 t1 => q.1 _ _ _ _ p1 w1 (s.mono p1) t1⟩
theorem as_if {t : ATT} {u v : ATS} {b1 b2 : List Stmt} (hc : ATE X c t) (h1 : ASs X b1 u) (h2 : ASs X b2 v) : AS X (.If c b1 b2 pos) (aIfS t u v) := psW (ps_if hc h1 h2) fun E σ H => by
  rintro ⟨Z, Δ, L, A, w, s, t, q⟩
  refine ⟨Z, Δ, L, _, w, s, t, fun x L1 H1 p1 w1 t1 => ?_⟩
  cases x with
  | true => exact iteT ⟨Z, Δ, L1, A, w1, s.mono p1, t1.1 rfl, q.after p1⟩
  | false => exact iteF ⟨Z, Δ, L1, A, w1, s.mono p1, t1.2 rfl, q.after p1⟩
theorem as_never : AS X st aNever := psW ps_never fun E σ H => by
  rintro ⟨Z, Δ, L, A, w, s, t, q⟩
  exact t
theorem ass_never : ASs X sts aNever := pssW pss_never fun E σ H => by
  rintro ⟨Z, Δ, L, A, w, s, t, q⟩
  exact t

/-! ## targets: names, tuples of names -/
def setAll {α : Type} : List (Option α) → List Nat → List α → List (Option α)
  | l, [], _ => l
  | l, _ :: _, [] => l
  | l, i :: is, x :: xs => setAll (l.set i (some x)) is xs
inductive Tg where
  | one (i : Nat)
  | many (is : List Nat)
def Tg.slots : Tg → List Nat
  | .one i => [i]
  | .many is => is
def gNames : List Nat → TGs
  | [] => gNil
  | i :: is => gCons (gName i) (gNames is)
def Tg.C (K : PySem.W.Frag) : Tg → TG
  | .one i => gName i
  | .many is => gTup K is.length (gNames is)
/-- what it gives: the new slots -/
def Tg.A (g : Tg) (d : D) (Δ : Sg) (L : Lg) (K : Sg → Lg → Prop) : Prop := match g with
  | .one i => K (Δ.set i (some d)) L
  | .many is => match d with
    | .tup ds => ds.length = is.length ∧ K (setAll Δ is ds) L
    | _ => False
theorem Sl.setAll {L : Lg} {H : Hp} : ∀ {is : List Nat} {ds : List D} {vs : List V} {Δ : Sg} {σ : L2.St}, Reps M L H ds vs → Sl M L H Δ σ → Sl M L H (Wv.setAll Δ is ds) (Wv.setAll σ is vs)
  | [], _, _, _, _, _, s => s
  | _ :: _, _, _, _, _, .nil, s => s
  | i :: is, _, _, _, _, .cons a b, s => Sl.setAll (is := is) b (s.set a i)
theorem gNames_run : ∀ {is : List Nat} {vs : List V} {σ : L2.St} {H : Hp} {Q : L2.St → Hp → Prop}, vs.length = is.length → Q (setAll σ is vs) H → gNames is vs σ H Q
  | [], [], _, _, _, _, q => ⟨rfl, q⟩
  | [], _ :: _, _, _, _, h, _ => by simp at h
  | _ :: _, [], _, _, _, h, _ => by simp at h
  | i :: is, v :: vs, σ, H, Q, h, q => ⟨v, vs, rfl, gNames_run (is := is) (by simpa using h) q⟩
/-- the target run: the concrete slots are told -/
theorem Tg.run {g : Tg} {d : D} {v : V} {Δ : Sg} {σ : L2.St} {L : Lg} {H : Hp} {K : Sg → Lg → Prop} {Q : L2.St → Hp → Prop} (s : Sl M L H Δ σ) (r : Rep M L H d v) (t : g.A d Δ L K)
    (q : ∀ Δ' σ', Sl M L H Δ' σ' → K Δ' L → (∀ vs : List Nat, (∀ j ∈ g.slots, j ∈ vs) → L2.wipe σ' vs = L2.wipe σ vs ∧ wipeD Δ' vs = wipeD Δ vs) → Q σ' H) : g.C M.K v σ H Q := by
  have hw : ∀ {α : Type} (w : List (Option α) → List Nat → List (Option α)) (_ : ∀ l, w l [] = l) (_ : ∀ l v vs, w l (v :: vs) = (w l vs).set v none) (vs : List Nat) (l : List (Option α)) (i : Nat) (x : α), i ∈ vs → w (l.set i (some x)) vs = w l vs := by
    intro α w w0 w1 vs
    have key : ∀ (vs : List Nat) (l : List (Option α)) (j : Nat), (w l vs)[j]? = if j ∈ vs then (if j < l.length then some none else none) else l[j]? := by
      intro vs
      induction vs with
      | nil => intro l j; rw [w0]; simp
      | cons v vs ih =>
        intro l j
        rw [w1, List.getElem?_set]
        have hl : (w l vs).length = l.length := by
          clear ih
          induction vs with
          | nil => rw [w0]
          | cons u us ih2 => rw [w1, List.length_set, ih2]
        by_cases e : v = j
        · subst e
          rw [if_pos rfl, hl]
          simp
        · rw [if_neg e, ih l j]
          have : (j ∈ v :: vs) ↔ j ∈ vs := by
            rw [List.mem_cons]
            exact ⟨fun h => h.resolve_left fun z => e z.symm, .inr⟩
          simp only [this]
    intro l i x hi
    refine List.ext_getElem? fun j => ?_
    rw [key, key, List.length_set]
    by_cases hj : j ∈ vs
    · rw [if_pos hj, if_pos hj]
    · rw [if_neg hj, if_neg hj, List.getElem?_set, if_neg (fun z : i = j => hj (z ▸ hi))]
  have hA : ∀ {α : Type} (w : List (Option α) → List Nat → List (Option α)) (_ : ∀ l, w l [] = l) (_ : ∀ l v vs, w l (v :: vs) = (w l vs).set v none) (vs : List Nat) (is : List Nat) (xs : List α) (l : List (Option α)), (∀ j ∈ is, j ∈ vs) → w (setAll l is xs) vs = w l vs := by
    intro α w w0 w1 vs is
    induction is with
    | nil => intro xs l _; rfl
    | cons i is ih =>
      intro xs l hi
      cases xs with
      | nil => rfl
      | cons x xs =>
        show w (setAll (l.set i (some x)) is xs) vs = _
        rw [ih xs _ fun j hj => hi j (List.mem_cons_of_mem _ hj)]
        exact hw w w0 w1 vs l i x (hi i List.mem_cons_self)
  cases g with
  | one i => exact q _ _ (s.set r i) t fun vs h => ⟨hw L2.wipe (fun _ => rfl) (fun _ _ _ => rfl) vs σ i v (h i (List.mem_singleton.mpr rfl)), hw wipeD (fun _ => rfl) (fun _ _ _ => rfl) vs Δ i d (h i (List.mem_singleton.mpr rfl))⟩
  | many is =>
    cases d with
    | tup ds =>
      obtain ⟨hl, t⟩ := t
      cases r with
      | tup la ha rs =>
        refine ⟨_, _, rfl, SqT.of ha, by rw [← rs.length]; exact hl, gNames_run (by rw [← rs.length]; exact hl) (q _ _ (s.setAll rs) t fun vs h => ⟨hA L2.wipe (fun _ => rfl) (fun _ _ _ => rfl) vs is _ σ h, hA wipeD (fun _ => rfl) (fun _ _ _ => rfl) vs is _ Δ h⟩)⟩
    | _ => exact t.elim
/-! ### target = value -/
def aAsg (t : AT) (g : Tg) : ATS := fun A Δ L => t Δ L fun d L1 => g.A d Δ L1 A.nx
theorem liftS_asg {g : Tg} {E : Ends} {σ : L2.St} {H : Hp} (h : liftS M (aAsg ta g) E σ H) : tAsg (lift M ta) (g.C M.K) E σ H := by
  obtain ⟨Z, Δ, L, A, w, s, t, q⟩ := h
  refine ⟨Z, Δ, L, _, w, s, t, fun d L1 v H1 p1 w1 r1 t1 => ?_⟩
  exact Tg.run (M := M.z Z) (s.mono p1) r1 t1 fun Δ' σ' s' k' _ => q.1 _ _ _ _ p1 w1 s' k'
theorem as_set {i : Nat} {x : Str} {pos' : Pos} (hN : X.N.Nodup) (hi : X.N[i]? = some x) (hx : Loc X.env.scope x) (he : AE X e ta) (hs : swapsWith e (some (.Name x pos')) pos.line X.env = pure false := by rfl)
    (hf : X.fn x = true ∨ X.env.scope.names.lookup x = some .local := by first | exact .inl rfl | exact .inr rfl | assumption) : AS X (.Assign [.Name x pos'] e pos) (aAsg ta (.one i)) :=
  psW (ps_set hN hi hx he hs hf) fun _ _ _ => liftS_asg

theorem as_asg {tg : Expr} {g : Tg} (he : AE X e ta) (hg : PG X tg (g.C X.K)) (hs : swapsWithSole [tg] e pos.line X.env = pure false := by rfl) (hw : swappedStores [tg] e X.env = pure none := by rfl)
    (h1 : (assignEach [tg] X.env).map (·.2) = [assign tg X.env] := by rfl) : AS X (.Assign [tg] e pos) (aAsg ta g) :=
  psW (ps_asg he hg hs hw h1) fun _ _ _ => liftS_asg
/-- a, b = x, y -/
def aPar (i j : Nat) (tr : ATA) : ATS := fun A Δ L => tr Δ L fun ds L1 => match ds with
  | [d, e] => A.nx ((Δ.set i (some d)).set j (some e)) L1
  | _ => False
theorem as_par {i j : Nat} {x y : Str} {px py pt : Pos} {kt k2 pt2} (hc : X.calm = true) (hN : X.N.Nodup) (hi : X.N[i]? = some x) (hj : X.N[j]? = some y) (hij : i ≠ j)
    (hx : X.env.scope.names.lookup x = some .local) (hy : X.env.scope.names.lookup y = some .local) (ha : AA X [a, b] tr)
    (hw : swappedStores [.Tuple [.Name x px, .Name y py] kt pt] (.Tuple [a, b] k2 pt2) X.env = pure (some [x, y]))
    (hs : swapsWithSole [.Tuple [.Name x px, .Name y py] kt pt] (.Tuple [a, b] k2 pt2) pos.line X.env = pure false := by rfl) :
    AS X (.Assign [.Tuple [.Name x px, .Name y py] kt pt] (.Tuple [a, b] k2 pt2) pos) (aPar i j tr) := psW (ps_par hc hN hi hj hij hx hy ha hw hs) fun E σ H => by
  rintro ⟨Z, Δ, L, A, w, s, t, q⟩
  refine ⟨Z, Δ, L, _, w, s, t, fun ds L1 vs H1 p1 w1 r1 t1 => ?_⟩
  split at t1
  · obtain ⟨v, u, rfl, r2, r3⟩ := reps2 r1
    exact ⟨v, u, rfl, q.1 _ _ _ _ p1 w1 (((s.mono p1).set r2 i).set r3 j) t1⟩
  · exact t1.elim

/-! ## what is walked -/
/-- an iterator whose turns are told -/
def Zs (M : Mo) (H : Hp) (Z : Addr → Prop) : Prop := ∀ a o, Z a → H a = some o → M.Z a
def ItOk (M : Mo) (L : Lg) (H : Hp) (J : It) (its : List D) (live : Lg → Prop) : Prop := ∀ Z, Zs M H Z → ∀ L' H', Pers L H L' H' → Wd (M.z Z) L' H' → live L' →
  J.stop its.length H' ∧ ∀ i d, its[i]? = some d → J.go i H' ∧ ∀ x H'', J.yld i H' x H'' → Pers L' H' L' H'' ∧ Wd (M.z Z) L' H'' ∧ Rep (M.z Z) L' H'' d x
abbrev AI := Sg → Lg → (List D → (Lg → Prop) → Lg → Prop) → Prop
def liftI (M : Mo) (t : AI) : TI := fun σ H R => ∃ Z Δ L K, Wd (M.z Z) L H ∧ Sl (M.z Z) L H Δ σ ∧ t Δ L K ∧ ∀ its live L' H' J, Pers L H L' H' → Wd (M.z Z) L' H' → ItOk (M.z Z) L' H' J its live → K its live L' → R J H'
abbrev AIt (X : Cx) (tg it : Expr) (t : AI) : Prop := PI X tg it (liftI X.mo t)
/-- a for, item by item -/
def forA (live : Lg → Prop) (g : Tg) (tb : ATS) (A : AEnds) : List D → Sg → Lg → Prop
  | [], Δ, L => live L ∧ A.nx Δ L
  | d :: ds, Δ, L => live L ∧ g.A d Δ L fun Δ' L' => tb { A with nx := forA live g tb A ds, ct := forA live g tb A ds, bk := A.nx } Δ' L'
def aFor (ti : AI) (g : Tg) (tb : ATS) : ATS := fun A Δ L => ti Δ L fun its live L1 => forA live g tb A its Δ L1
theorem forA_live {live : Lg → Prop} {g : Tg} {tb : ATS} {A : AEnds} {ds : List D} {Δ : Sg} {L : Lg} (h : forA live g tb A ds Δ L) : live L := by
  cases ds with
  | nil => exact h.1
  | cons d ds => exact h.1
theorem liftS_for {ti : AI} {g : Tg} {tb : ATS} {E : Ends} {σ : L2.St} {H : Hp} (h : liftS M (aFor ti g tb) E σ H) : tFor (liftI M ti) (g.C M.K) (liftS M tb) E σ H := by
  obtain ⟨Z, Δ, L, A, w, s, t, q⟩ := h
  refine ⟨Z, Δ, L, _, w, s, t, fun its live L1 H1 J p1 w1 ok t1 => ?_⟩
  refine ⟨fun i m σ' H' => i + m = its.length ∧ ∃ Δ' L', Pers L1 H1 L' H' ∧ Wd (M.z Z) L' H' ∧ Sl (M.z Z) L' H' Δ' σ' ∧ forA live g tb A (its.drop i) Δ' L', ⟨its.length, by omega, Δ, L1, Pers.refl _ _, w1, s.mono p1, by simpa using t1⟩, ?_⟩
  rintro i m σ' H' ⟨hm, Δ', L', p2, w2, s2, f⟩
  obtain ⟨o1, o2⟩ := ok Z (fun _ _ z _ => z) L' H' p2 w2 (forA_live f)
  by_cases hi : i < its.length
  · have e : its[i]? = some its[i] := List.getElem?_eq_getElem hi
    obtain ⟨hg, hy⟩ := o2 i _ e
    refine .inr ⟨hg, fun σ'' H'' => ∃ Δ'' L'', Pers L1 H1 L'' H'' ∧ Wd (M.z Z) L'' H'' ∧ Sl (M.z Z) L'' H'' Δ'' σ'' ∧ forA live g tb A (its.drop (i + 1)) Δ'' L'', ?_, fun x H'' y => ?_⟩
    · rintro σ'' H'' ⟨Δ'', L'', a, b, c, d⟩
      exact ⟨m - 1, by omega, by omega, Δ'', L'', a, b, c, d⟩
    · obtain ⟨p3, w3, r3⟩ := hy x H'' y
      rw [List.drop_eq_getElem_cons hi] at f
      refine Tg.run (M := M.z Z) (s2.mono p3) r3 f.2 fun Δ3 σ3 s3 k3 _ => ?_
      refine ⟨Z, Δ3, L', _, w3, s3, k3, ?_, (q.2.1.after p1).after (p2.trans p3), (q.1.after p1).after (p2.trans p3), ?_⟩
      · intro Δ4 L4 σ4 H4 p4 w4 s4 k4
        exact ⟨Δ4, L4, (p2.trans p3).trans p4, w4, s4, k4⟩
      · intro Δ4 L4 σ4 H4 p4 w4 s4 k4
        exact ⟨Δ4, L4, (p2.trans p3).trans p4, w4, s4, k4⟩
  · rw [List.drop_of_length_le (by omega)] at f
    have ei : i = its.length := by omega
    exact .inl ⟨by rw [ei]; exact o1, (q.1.after p1) _ _ _ _ p2 w2 s2 f.2⟩
theorem as_for {tg it : Expr} {body : List Stmt} {ti : AI} {g : Tg} {tb : ATS} (hp : PassesOwn (model X.prog X.w) X.A X.env X.xe) (hc : X.calm = true) (hi : AIt X tg it ti) (hg : PG X tg (g.C X.K)) (hb : ASs X body tb)
    (hs : ∀ x, foldedSetIterable it X.env x = pure x := by intro _; rfl) : AS X (.For tg it body [] pos) (aFor ti g tb) := psW (ps_for hp hc hi hg hb hs) fun _ _ _ => liftS_for
/-- a while, with a number of turns at most -/
def whileA (c : ATT) (tb : ATS) (A : AEnds) : Nat → Sg → Lg → Prop
  | 0, _, _ => False
  | n + 1, Δ, L => c Δ L fun b L1 => (b = true → tb { A with nx := whileA c tb A n, ct := whileA c tb A n, bk := A.nx } Δ L1) ∧ (b = false → A.nx Δ L1)
def aWhile (c : ATT) (tb : ATS) : ATS := fun A Δ L => ∃ n, whileA c tb A n Δ L
theorem as_while {c : Expr} {body : List Stmt} {t : ATT} {tb : ATS} (hp : PassesOwn (model X.prog X.w) X.A X.env X.xe) (hc : ATE X c t) (hb : ASs X body tb) : AS X (.While c body [] pos) (aWhile t tb) := psW (ps_while hp hc hb) fun E σ H => by
  rintro ⟨Z, Δ, L, A, w, s, ⟨n, t⟩, q⟩
  refine ⟨fun m σ' H' => ∃ Δ' L', Pers L H L' H' ∧ Wd (X.mo.z Z) L' H' ∧ Sl (X.mo.z Z) L' H' Δ' σ' ∧ whileA _ tb A m Δ' L', ⟨n, Δ, L, Pers.refl _ _, w, s, t⟩, ?_⟩
  rintro m σ' H' ⟨Δ', L', p1, w1, s1, f⟩
  cases m with
  | zero => exact f.elim
  | succ m =>
    refine ⟨Z, Δ', L', _, w1, s1, f, fun b L2 H2 p2 w2 t2 => ?_⟩
    cases b with
    | true =>
      refine iteT ⟨fun σ'' H'' => ∃ Δ'' L'', Pers L H L'' H'' ∧ Wd (X.mo.z Z) L'' H'' ∧ Sl (X.mo.z Z) L'' H'' Δ'' σ'' ∧ whileA _ tb A m Δ'' L'', fun σ'' H'' h => ⟨m, by omega, h⟩, Z, Δ', L2, _, w2, s1.mono p2, t2.1 rfl, ?_, q.2.1.after (p1.trans p2), q.1.after (p1.trans p2), ?_⟩
      · intro Δ4 L4 σ4 H4 p4 w4 s4 k4
        exact ⟨Δ4, L4, (p1.trans p2).trans p4, w4, s4, k4⟩
      · intro Δ4 L4 σ4 H4 p4 w4 s4 k4
        exact ⟨Δ4, L4, (p1.trans p2).trans p4, w4, s4, k4⟩
    | false => exact iteF (q.1 _ _ _ _ (p1.trans p2) w2 (s1.mono p2) (t2.2 rfl))
end
end Wv

namespace Wv
open PySem PySem.Spec PyProof.Rows L2

/-! ## zip and enumerate over lists and tuples in any mix -/
/-- a sequence: a list (true), a tuple (false) -/
def Sq (K : PySem.W.Frag) (b : Bool) (H : Hp) (a : Addr) (xs : List V) : Prop := match b with
  | true => SqL K H a xs
  | false => SqT K H a xs
def IsSq (b : Bool) (h : Heap) (a : Addr) (its : Array Value) : Prop := match b with
  | true => h.IsList a its
  | false => h.IsTuple a its
def ItSq (b : Bool) (h : Heap) (it a : Addr) (i : Nat) : Prop := match b with
  | true => h.IsListIter it a i
  | false => h.IsTupleIter it a i
def itO (b : Bool) (a : Addr) : Obj := match b with
  | true => { cls := .type "list_iterator", data := .fields #[.ref a, .int 0 0] }
  | false => { cls := .type "tuple_iterator", data := .fields #[.ref a, .int 0 0] }
section
variable {X : Cx} {pins : List (Addr × Obj)} {σ : L2.St} {H : Hp} {s : Shared} {b : Bool} {a it : Addr} {xs ys : List V} {h h' : Heap} {i : Nat} {its : Array Value}
theorem Sq.at_ (I : L2.Inv X pins σ H s) (q : Sq X.K b H a xs) : ∃ its : List Value, Vals xs its ∧ IsSq b s.heap a its.toArray ∧ a < s.heap.objs.size := by
  cases b with
  | true =>
    obtain ⟨its, rv, p, _⟩ := I.list q
    exact ⟨its, rv, p.isList, p.lt⟩
  | false =>
    obtain ⟨its, rv, p, _⟩ := I.tuple q
    obtain ⟨o, e, _⟩ := id p
    exact ⟨its, rv, p, Heap.lt_size e⟩
theorem Sq.inj (I : L2.Inv X pins σ H s) (q : Sq X.K b H a xs) (q2 : Sq X.K b H a ys) : xs = ys := by
  cases b with
  | true => exact I.list_inj q q2
  | false => exact I.tuple_inj q q2
theorem ItSq.keep (st : ItSq b h it a i) (k : ∀ o, h.get? it = some o → h'.get? it = some o) : ItSq b h' it a i := by
  cases b with
  | true => exact Heap.IsListIter.at st k
  | false => exact Heap.IsTupleIter.at st k
theorem ItSq.obj (st : ItSq b h it a i) : ∃ o, h.get? it = some o ∧ ∀ v, o.data ≠ .cell v := by
  cases b with
  | true =>
    obtain ⟨o, e, _, d⟩ := st
    exact ⟨o, e, fun v q => by rw [d] at q; cases q⟩
  | false =>
    obtain ⟨o, e, _, d⟩ := st
    exact ⟨o, e, fun v q => by rw [d] at q; cases q⟩
theorem ItSq.new (e : h.get? it = some (itO b a)) : ItSq b h it a 0 := by
  cases b with
  | true => exact ⟨_, e, rfl, rfl⟩
  | false => exact ⟨_, e, rfl, rfl⟩
theorem begins_sq (b : Bool) (a : Addr) (its : Array Value) : Begins (.ref a) (itO b a) fun h => IsSq b h a its := by
  cases b with
  | true => exact begins_list a its
  | false => exact begins_tuple a its
theorem draws_sq {prog : Program} {w : World} {A : Around} (hh : A.handled = none) (b : Bool) (it a : Addr) (hne : a ≠ it) (items : Array Value) :
    Draws prog w A it [it, a] items.size (fun i v => items[i]? = some v) (fun i h => ItSq b h it a i ∧ IsSq b h a items) := by
  cases b with
  | true => exact Draws.list hh it a hne items
  | false => exact Draws.tuple hh it a hne items
end
/-- the sequences at a and b as they stand at each turn, the items in new pairs -/
def ItzG (K : PySem.W.Frag) (b1 b2 : Bool) (a b : Addr) : It :=
  ⟨fun i H => ∃ (xs ys : List V) (x y : V), Sq K b1 H a xs ∧ Sq K b2 H b ys ∧ xs[i]? = some x ∧ ys[i]? = some y,
    fun i H v H' => ∃ T x y, v = .ref T ∧ H T = none ∧ H' = upd H T (.tup [x, y]) ∧ (∀ xs, Sq K b1 H a xs → xs[i]? = some x) ∧ ∀ ys, Sq K b2 H b ys → ys[i]? = some y,
    fun i H => ∃ xs ys : List V, Sq K b1 H a xs ∧ Sq K b2 H b ys ∧ (xs.length = i ∧ i ≤ ys.length ∨ ys.length = i ∧ i ≤ xs.length)⟩
theorem turn_zipG {P : Program} {w : World} {K : PySem.W.Frag} {elts : List Expr} {kk : Nat} {tpos : Pos} {b1 b2 : Bool} {a b z TI TO i1 i2 : Addr} (D : ZipSep2 z TI TO i1 i2 [i1, a] [i2, b]) (n1 : a ≠ i1) (n2 : b ≠ i2) :
    Turn P w K (.Tuple elts kk tpos) (ItzG K b1 b2 a b) [z, TI, TO, i1, i2] z (fun i h => IsZip h z TI TO .none ∧ IsTupOf2 h TI (.ref i1) (.ref i2) ∧ (∃ x y, IsTupOf2 h TO x y) ∧ ItSq b1 h i1 a i ∧ ItSq b2 h i2 b i) where
  mem := by simp
  obj := fun i h st c hc => by
    obtain ⟨hz, hTI, ⟨x, y, hTO⟩, h1, h2⟩ := st
    have e' : c = z ∨ c = TI ∨ c = TO ∨ c = i1 ∨ c = i2 := by simpa using hc
    rcases e' with q | q | q | q | q
    · rw [q]; exact ⟨_, hz, fun v q => nomatch q⟩
    · rw [q]; exact ⟨_, hTI, fun v q => nomatch q⟩
    · rw [q]; exact ⟨_, hTO, fun v q => nomatch q⟩
    · rw [q]; exact h1.obj
    · rw [q]; exact h2.obj
  keep := fun i h h' st k => by
    obtain ⟨hz, hTI, ⟨x, y, hTO⟩, h1, h2⟩ := st
    exact ⟨k z (by simp) _ hz, k TI (by simp) _ hTI, ⟨x, y, k TO (by simp) _ hTO⟩, h1.keep fun o q => k i1 (by simp) o q, h2.keep fun o q => k i2 (by simp) o q⟩
  item := by
    intro X hP hw hK hc i pins s σ H E I hf st hg
    subst hP hw hK
    obtain ⟨hz, hTI, ⟨x0, y0, hTO⟩, h1, h2⟩ := st
    obtain ⟨xs, ys, x, y, hqx, hqy, hx, hy⟩ := hg
    obtain ⟨its, rv, p, _⟩ := hqx.at_ I
    obtain ⟨its2, rv2, p2, _⟩ := hqy.at_ I
    obtain ⟨u, hu, ru⟩ := rv.get hx
    obtain ⟨u2, hu2, ru2⟩ := rv2.get hy
    have hzl : z < s.heap.objs.size := Heap.lt_size hz
    have hh : X.A.in1.handled = none := I.ok.hd hc
    have l1 : i < its.toArray.size := by simpa using (List.getElem?_eq_some_iff.mp hu).1
    have l2 : i < its2.toArray.size := by simpa using (List.getElem?_eq_some_iff.mp hu2).1
    refine wpAny_pyNext_zipD2_item D (draws_sq hh b1 i1 a n1 its.toArray) (draws_sq hh b2 i2 b n2 its2.toArray) hz hTI hTO ⟨h1, p⟩ ⟨h2, p2⟩ l1 l2 fun w1 w2 h' tk q1 q2 z' TO' h1' h2' hT hsz hk => ?_
    have eu : w1 = u := by
      have q1 : its.toArray[i]? = some w1 := q1
      rw [List.getElem?_toArray, hu] at q1
      exact (Option.some.inj q1).symm
    have eu2 : w2 = u2 := by
      have q2 : its2.toArray[i]? = some w2 := q2
      rw [List.getElem?_toArray, hu2] at q2
      exact (Option.some.inj q2).symm
    subst eu eu2
    refine ⟨_, rfl, wpAny_letOwnedTupleGo_zip (s := { s with heap := h', toks := tk }) z' fun h'' z'' sb => ?_⟩
    have hT2 : h''.get? s.heap.objs.size = some { cls := .type "tuple", data := .seq #[w1, w2] } := (sb.2 _ (Nat.ne_of_gt hzl)).trans hT
    have new : ObjOk X.prog X.w (upd H s.heap.objs.size (.tup [x, y])) h'' s.heap.objs.size (.tup [x, y]) :=
      ⟨by show 2 ≤ sizeLine; decide, [w1, w2], .cons ru (.cons ru2 .nil), ⟨_, hT2, rfl, _, rfl⟩⟩
    have I1 : L2.Inv X pins σ (upd H s.heap.objs.size (.tup [x, y])) { s with heap := h'', toks := tk } :=
      I.turnedNew (t' := tk) (ch := [z, TI, TO, i1, i2]) (fun c o hb q => (sb.2 c (fun q' => hb (by simp [q']))).trans (hk c o (fun q' => hb (by simp [q'])) (fun q' => hb (by simp [q'])) (fun q' => hb (by simp [q'])) (fun q' => hb (by simp [q'])) q)) hf (Nat.le_refl _) new
    refine ⟨.ref s.heap.objs.size, _, I1, rfl, ⟨_, x, y, rfl, I.hok.fresh (Nat.le_refl _), rfl, fun l hl => by rw [hl.inj I hqx]; exact hx, fun l hl => by rw [hl.inj I hqy]; exact hy⟩, ⟨z'', ?_, ⟨w1, w2, ?_⟩, ?_, ?_⟩, fun c hcm => ?_⟩
    · exact (sb.2 _ D.TIz).trans (hk _ _ D.TIz D.TITO D.TIi1 D.TIi2 hTI)
    · exact (sb.2 _ D.TOz).trans TO'
    · exact h1'.1.keep fun o q => (sb.2 _ D.zi1.symm).trans q
    · exact h2'.1.keep fun o q => (sb.2 _ D.zi2.symm).trans q
    · have hlt : c < s.heap.objs.size := by
        have e' : c = z ∨ c = TI ∨ c = TO ∨ c = i1 ∨ c = i2 := by simpa using hcm
        rcases e' with q | q | q | q | q
        · rw [q]; exact hzl
        · rw [q]; exact Heap.lt_size hTI
        · rw [q]; exact Heap.lt_size hTO
        · rw [q]; obtain ⟨_, e1, _⟩ := h1.obj; exact Heap.lt_size e1
        · rw [q]; obtain ⟨_, e2, _⟩ := h2.obj; exact Heap.lt_size e2
      rw [upd_ne (Nat.ne_of_lt hlt)]
      exact (hf c hcm).1
  done := by
    intro X hP hw hK hc i pins s σ H E I hf st hg
    subst hP hw hK
    obtain ⟨hz, hTI, ⟨x0, y0, hTO⟩, h1, h2⟩ := st
    obtain ⟨xs, ys, hqx, hqy, hend⟩ := hg
    obtain ⟨its, rv, p, _⟩ := hqx.at_ I
    obtain ⟨its2, rv2, p2, _⟩ := hqy.at_ I
    have l1 := rv.length
    have l2 := rv2.length
    have hh : X.A.in1.handled = none := I.ok.hd hc
    exact wpAny_pyNext_zipD2_end D (draws_sq hh b1 i1 a n1 its.toArray) (draws_sq hh b2 i2 b n2 its2.toArray) hz hTI hTO ⟨h1, p⟩ ⟨h2, p2⟩ (by simp; omega) (by simp; omega) (by simp; omega) fun h' tk hk => ⟨rfl, I.turnedL (t' := tk) (ch := [z, TI, TO, i1, i2]) (fun c o hb q =>
      hk c o (fun q' => hb (by simp [q'])) (fun q' => hb (by simp [q'])) (fun q' => hb (by simp [q'])) (fun q' => hb (by simp [q'])) q) hf⟩
  self := fun A i s Q E st h => wpAny_pyIter_zip st.1 h
def iZipG (K : PySem.W.Frag) (ta : TA) : TI := fun σ H R => ta σ H fun vs H1 => ∃ a b b1 b2 xs ys, vs = [.ref a, .ref b] ∧ Sq K b1 H1 a xs ∧ Sq K b2 H1 b ys ∧ R (ItzG K b1 b2 a b) H1
theorem pi_zipG {X : Cx} {e e2 : Expr} {ta : TA} {p pos tpos : Pos} {elts : List Expr} {kk : Nat} (hg : Gl X "zip") (hm : X.mg "zip" = none) (ha : PA X [e, e2] ta)
    (hs : starEach [e, e2] X.env = (false, eval e X.env) :: starEach [e2] X.env := by rfl) (hpl : (backTo pos (starEach [e2] X.env)).any (·.1) = false := by rfl) :
    PI X (.Tuple elts kk tpos) (.Call (.Name "zip" p) [e, e2] [] pos) (iZipG X.K ta) := by
  refine ⟨fun pins s σ H R I h => ?_⟩
  refine Call_ (ld_blt I hg hm PyProof.Rows.boot_zip (PyProof.Rows.callWith_type1 (thn (ha.run pos pins s σ H _ I h) fun us s1 ⟨vs, H1, I1, r1, q1⟩ => ?_) hs hpl))
  obtain ⟨a, b, b1, b2, xs, ys, ex, hqx, hqy, q⟩ := q1
  subst ex
  cases r1 with
  | cons r rr =>
    cases rr with
    | cons r' rr =>
      cases rr
      cases r
      cases r'
      have fresh5 : ∀ c, c ∈ [s1.heap.objs.size + 4, s1.heap.objs.size + 2, s1.heap.objs.size + 3, s1.heap.objs.size, s1.heap.objs.size + 1] → FpOk X pins H1 c := fun c hcm => by
        have hle : s1.heap.objs.size ≤ c := by
          have e' : c = s1.heap.objs.size + 4 ∨ c = s1.heap.objs.size + 2 ∨ c = s1.heap.objs.size + 3 ∨ c = s1.heap.objs.size ∨ c = s1.heap.objs.size + 1 := by simpa using hcm
          rcases e' with z | z | z | z | z <;> (rw [z]; first | exact Nat.le_add_right _ _ | exact Nat.le_refl _)
        exact I1.fpOk hle (I1.hok.fresh hle)
      obtain ⟨its, rv, p1, la⟩ := hqx.at_ I1
      obtain ⟨its2, rv2, p2, lb⟩ := hqy.at_ I1
      refine zip_begins2 (begins_sq b1 a its.toArray) (begins_sq b2 b its2.toArray) p1 p2 fun h' hz hTI hTO h1 h2 hsz hk => wpAny_pyIter_zip hz ?_
      have I2 : L2.Inv X pins σ H1 { s1 with heap := h' } := I1.kept (t' := s1.toks) hk
      exact ⟨s1.heap.objs.size + 4, [s1.heap.objs.size + 4, s1.heap.objs.size + 2, s1.heap.objs.size + 3, s1.heap.objs.size, s1.heap.objs.size + 1], _, _, H1, rfl, I2,
        turn_zipG (zip_sep2 (fp1 := [a]) (fp2 := [b]) (fun c hc => by rw [List.mem_singleton.mp hc]; exact la) (fun c hc => by rw [List.mem_singleton.mp hc]; exact lb)) (Nat.ne_of_lt la) (Nat.ne_of_lt (Nat.lt_succ_of_lt lb)), ⟨hz, hTI, ⟨_, _, hTO⟩, .new h1, .new h2⟩, fresh5, q⟩
/-- enumerate over either -/
def IteG (K : PySem.W.Frag) (b : Bool) (a : Addr) : It :=
  ⟨fun i H => ∃ (xs : List V) (x : V), Sq K b H a xs ∧ xs[i]? = some x, fun i H v H' => ∃ T x, v = .ref T ∧ H T = none ∧ H' = upd H T (.tup [.int (i : Nat), x]) ∧ ∀ xs, Sq K b H a xs → xs[i]? = some x, fun i H => ∃ xs : List V, Sq K b H a xs ∧ xs.length = i⟩
theorem turn_enumG {P : Program} {w : World} {K : PySem.W.Frag} {elts : List Expr} {kk : Nat} {tpos : Pos} {b : Bool} (a e it : Addr) (n1 : a ≠ it) (n2 : e ≠ it) (n3 : e ≠ a) :
    Turn P w K (.Tuple elts kk tpos) (IteG K b a) [e, it] e (fun i h => (∃ old, IsEnum h e it ((i : Nat) : Int) old) ∧ ItSq b h it a i) where
  mem := by simp
  obj := fun i h st c hb => by
    obtain ⟨⟨old, he⟩, hi⟩ := st
    have e' : c = e ∨ c = it := by simpa using hb
    rcases e' with z | z
    · rw [z]; exact ⟨_, he, fun v q => nomatch q⟩
    · rw [z]; exact hi.obj
  keep := fun i h h' st k => let ⟨⟨old, he⟩, hi⟩ := st; ⟨⟨old, k e (by simp) _ he⟩, hi.keep fun o q => k it (by simp) o q⟩
  item := by
    intro X hP hw hK hc i pins s σ H E I hf st hg
    subst hP hw hK
    obtain ⟨⟨old, he⟩, hit⟩ := st
    obtain ⟨xs, x, hq, hx⟩ := hg
    obtain ⟨its, rv, p, _⟩ := hq.at_ I
    obtain ⟨u, hu, ru⟩ := rv.get hx
    have hel : e < s.heap.objs.size := Heap.lt_size he
    have hil : it < s.heap.objs.size := by obtain ⟨_, q, _⟩ := hit.obj; exact Heap.lt_size q
    have hh : X.A.in1.handled = none := I.ok.hd hc
    have l1 : i < its.toArray.size := by simpa using (List.getElem?_eq_some_iff.mp hu).1
    refine wpAny_pyNext_enum_itemD (draws_sq hh b it a n1 its.toArray) he ⟨hit, p⟩ l1 n2 (by simp [n2, n3]) fun w1 h' tk q1 ho st' hT hsz hk => ?_
    have eu : w1 = u := by
      have q1 : its.toArray[i]? = some w1 := q1
      rw [List.getElem?_toArray, hu] at q1
      exact (Option.some.inj q1).symm
    subst eu
    refine ⟨_, rfl, wpAny_letOwnedTupleGo_enum (s := { s with heap := h', toks := tk + 1 }) ho fun h'' he' sb => ?_⟩
    have hT2 : h''.get? s.heap.objs.size = some { cls := .type "tuple", data := .seq #[.int i tk, w1] } := (sb.2 _ (Nat.ne_of_gt hel)).trans hT
    have new : ObjOk X.prog X.w (upd H s.heap.objs.size (.tup [.int (i : Nat), x])) h'' s.heap.objs.size (.tup [.int (i : Nat), x]) :=
      ⟨by show 2 ≤ sizeLine; decide, [.int i tk, w1], .cons ⟨_, rfl⟩ (.cons ru .nil), ⟨_, hT2, rfl, _, rfl⟩⟩
    have I1 : L2.Inv X pins σ (upd H s.heap.objs.size (.tup [.int (i : Nat), x])) { s with heap := h'', toks := tk + 1 } :=
      I.turnedNew (ch := [e, it]) (fun b ob hb q => (sb.2 b (fun z => hb (by simp [z]))).trans (hk b ob (fun z => hb (by simp [z])) (fun z => hb (by simp [z])) q)) hf (Nat.le_refl _) new
    refine ⟨.ref s.heap.objs.size, _, I1, rfl, ⟨_, x, rfl, I.hok.fresh (Nat.le_refl _), rfl, fun ys hy => by rw [hy.inj I hq]; exact hx⟩, ⟨⟨w1, ?_⟩, st'.1.keep fun o q => (sb.2 it (Ne.symm n2)).trans q⟩, fun c hb => ?_⟩
    · have e1 : ((i + 1 : Nat) : Int) = (i : Int) + 1 := by omega
      rw [e1]; exact he'
    · have hb' : c < s.heap.objs.size := by
        have e' : c = e ∨ c = it := by simpa using hb
        rcases e' with z | z
        · rw [z]; exact hel
        · rw [z]; exact hil
      rw [upd_ne (Nat.ne_of_lt hb')]
      exact (hf c hb).1
  done := by
    intro X hP hw hK hc i pins s σ H E I hf st hg
    subst hP hw hK
    obtain ⟨⟨old, he⟩, hit⟩ := st
    obtain ⟨xs, hq, hx⟩ := hg
    obtain ⟨its, rv, p, _⟩ := hq.at_ I
    obtain ⟨f0, f1, f2, f3, f4, f5⟩ := hf it (by simp)
    have hl := rv.length
    have hh : X.A.in1.handled = none := I.ok.hd hc
    have en : its.toArray.size = i := by simp; omega
    subst en
    exact wpAny_pyNext_enum_endD (draws_sq hh b it a n1 its.toArray) he ⟨hit, p⟩ fun h' eb => ⟨rfl, I.turned (t' := s.toks) (fun b o hb q => eb b o hb q) f0 f1 f3 f4 f5⟩
  self := fun A i s Q E st h => let ⟨⟨_, he⟩, _⟩ := st; wpAny_pyIter_enum he h
theorem meets_enumerate_newB1 {v : Value} {o : Obj} {H : Heap → Prop} (B : Begins v o H) :
    Meets (Builtin.«enumerate.__new__» ⟨[.type "enumerate", v], []⟩) (fun _ R s => H s.heap ∧
      R (.ok (.ret (.ref (s.heap.push o).objs.size))) { s with heap := (s.heap.push o).push { cls := .type "enumerate", data := .fields #[.none, .bool false, .ref s.heap.objs.size, rawInt 0, .none, .none] } }) :=
  .of_wp fun prog w A R s h => by
    obtain ⟨hp, g, d, tk, os⟩ := s; obtain ⟨h1, h⟩ := h
    have hsub := sub_enumerate
    have q1 : ∀ {A' : Around} {E : Value → Shared → Prop} {Q : Value → Shared → Prop}, Q (.ref hp.objs.size) ⟨hp.push o, g, d, tk, os⟩ → wpAny (model prog w) A' (pyIter v) Q E ⟨hp, g, d, tk, os⟩ :=
      fun q => B.iter prog w _ _ ⟨hp, g, d, tk, os⟩ _ h1 q
    wp_walk using q1
    refine wpAny_stack_any fun st => wpAny_pure ?_
    split
    · rename_i c _ _ _ _ _
      cases (c == Value.type "enumerate")
      · wp_walk using q1
        exact ⟨_, rfl, h⟩
      · wp_walk using q1
        exact ⟨_, rfl, h⟩
    · wp_walk using q1
      exact ⟨_, rfl, h⟩
theorem enum_begins1 {prog : Program} {w : World} {A : Around} {E : Value → Shared → Prop} {s : Shared} {v : Value} {o : Obj} {H : Heap → Prop} {Q : Value → Shared → Prop} (B : Begins v o H) (h1 : H s.heap)
    (h : ∀ h', IsEnum h' (s.heap.objs.size + 1) s.heap.objs.size 0 .none → h'.get? s.heap.objs.size = some o → h'.objs.size = s.heap.objs.size + 2 →
      (∀ b o, s.heap.get? b = some o → h'.get? b = some o) → Q (.ref (s.heap.objs.size + 1)) { s with heap := h' }) :
    wpAny (model prog w) A (call (.type "enumerate") [v]) Q E s := by
  refine callType_new F.called_enumerate (by decide) (F.typeCall_enumerate_1 _) (F.newCall_enumerate_1 _) (fun obj => F.args_object_init_2 obj _) F.entry_enumerate_new
    (meets_enumerate_newB1 B) ⟨h1, ?_⟩
  have hz : (s.heap.push o).objs.size = s.heap.objs.size + 1 := Heap.size_push ..
  show _ ∧ _
  rw [hz]
  have he : IsEnum ((s.heap.push o).push
      { cls := .type "enumerate", data := .fields #[.none, .bool false, .ref s.heap.objs.size, rawInt 0, .none, .none] }) (s.heap.objs.size + 1) s.heap.objs.size 0 .none := by
    have := Heap.get?_push_size (s.heap.push o)
      (o := { cls := .type "enumerate", data := .fields #[.none, .bool false, .ref s.heap.objs.size, rawInt 0, .none, .none] }) rfl
    rw [hz] at this; exact this
  refine ⟨⟨_, he, rfl⟩, h _ he (Heap.get?_push_of_some _ (Heap.get?_push_size _ B.free)) (by rw [Heap.size_push, hz]) fun b o x => Heap.get?_push_of_some _ (Heap.get?_push_of_some _ x)⟩
def iEnumG (K : PySem.W.Frag) (ta : TA) : TI := fun σ H R => ta σ H fun vs H1 => ∃ a b xs, vs = [.ref a] ∧ Sq K b H1 a xs ∧ R (IteG K b a) H1
theorem pi_enumG {X : Cx} {e : Expr} {ta : TA} {p pos tpos : Pos} {elts : List Expr} {kk : Nat} (hg : Gl X "enumerate") (hm : X.mg "enumerate" = none) (ha : PA X [e] ta) (hs : starEach [e] X.env = [(false, eval e X.env)] := by rfl) :
    PI X (.Tuple elts kk tpos) (.Call (.Name "enumerate" p) [e] [] pos) (iEnumG X.K ta) := by
  refine ⟨fun pins s σ H R I h => ?_⟩
  refine Call_ (ld_blt I hg hm boot_enumerate (PyProof.Rows.callWith_type1 (thn (ha.run pos pins s σ H _ I h) fun us s1 ⟨vs, H1, I1, r1, q1⟩ => ?_) hs rfl))
  obtain ⟨a, b, xs, ex, hq, q⟩ := q1
  subst ex
  cases r1 with
  | cons r rr =>
    cases rr
    cases r
    obtain ⟨its, rv, p', la⟩ := hq.at_ I1
    refine enum_begins1 (begins_sq b a its.toArray) p' fun h' he hit hsz hk => wpAny_pyIter_enum he ?_
    have I2 : L2.Inv X pins σ H1 { s1 with heap := h' } := I1.kept (t' := s1.toks) hk
    refine ⟨s1.heap.objs.size + 1, [s1.heap.objs.size + 1, s1.heap.objs.size], _, _, H1, rfl, I2, turn_enumG a (s1.heap.objs.size + 1) s1.heap.objs.size (Nat.ne_of_lt la) (Nat.succ_ne_self _) (Nat.ne_of_gt (Nat.lt_succ_of_lt la)), ⟨⟨.none, he⟩, .new hit⟩, fun b hb => ?_, q⟩
    have e' : b = s1.heap.objs.size + 1 ∨ b = s1.heap.objs.size := by simpa using hb
    have hle : s1.heap.objs.size ≤ b := by
      rcases e' with z | z
      · rw [z]; exact Nat.le_add_right _ _
      · rw [z]; exact Nat.le_refl _
    exact I1.fpOk hle (I1.hok.fresh hle)
/-- a list or a tuple walked -/
def ItG (K : PySem.W.Frag) (b : Bool) (a : Addr) : It := match b with
  | true => Itl K a
  | false => Itt K a
def iSqG (K : PySem.W.Frag) (tl : TE) : TI := fun σ H R => tl σ H fun x H1 => ∃ a b, x = .ref a ∧ (∃ xs, Sq K b H1 a xs) ∧ R (ItG K b a) H1
theorem pi_sq {X : Cx} {tg l : Expr} {tl : TE} (hl : PE X l tl) : PI X tg l (iSqG X.K tl) := by
  refine ⟨fun pins s σ H R I h => ?_⟩
  refine thn (hl.run pins s σ H _ I h) fun v s1 ⟨x, H1, I1, r1, q1⟩ => ?_
  obtain ⟨a, b, e, ⟨xs, hq⟩, q⟩ := q1
  subst e
  cases r1
  cases b with
  | true =>
    obtain ⟨its, rv, p, hz⟩ := I1.list hq
    refine wpAny_pyIter_list p.isList ?_
    refine ⟨s1.heap.objs.size, [s1.heap.objs.size], _, _, H1, rfl, I1.kept (t' := s1.toks) fun b o e => Heap.get?_push_of_some _ e, turn_list a _, ⟨_, Heap.get?_push_size _ rfl, rfl, rfl⟩, fun b hb => ?_, q⟩
    have e : b = s1.heap.objs.size := by simpa using hb
    subst e
    exact I1.fpOk (Nat.le_refl _) (I1.hok.fresh (Nat.le_refl _))
  | false =>
    obtain ⟨its, rv, p, hz⟩ := I1.tuple hq
    refine wpAny_pyIter_tuple (show s1.heap.IsTuple a its.toArray from p) ?_
    refine ⟨s1.heap.objs.size, [s1.heap.objs.size], _, _, H1, rfl, I1.kept (t' := s1.toks) fun b o e => Heap.get?_push_of_some _ e, turn_tuple a _, ⟨_, Heap.get?_push_size _ rfl, rfl, rfl⟩, fun b hb => ?_, q⟩
    have e : b = s1.heap.objs.size := by simpa using hb
    subst e
    exact I1.fpOk (Nat.le_refl _) (I1.hok.fresh (Nat.le_refl _))
end Wv

namespace Wv
open PySem PySem.Spec PyProof.Rows L2


/-! ## other things hidden -/
section
variable {M : Mo}
theorem Free.rez {L : Lg} {H : Hp} {Z : Addr → Prop} (h : Zs M H Z) {a : Addr} {o : HO} (f : Free M L a) (e : H a = some o) : Free (M.z Z) L a := ⟨f.1, fun z => f.2 (h a o z e)⟩
theorem Free.ne {L : Lg} {a p : Addr} (f : Free M L a) (h : M.Z p) : a ≠ p := fun e => f.2 (e ▸ h)
mutual
theorem Rep.rez {L : Lg} {H : Hp} {Z : Addr → Prop} (h : Zs M H Z) : ∀ {d : D} {v : V}, Rep M L H d v → Rep (M.z Z) L H d v
  | _, _, .non => .non
  | _, _, .bl b => .bl b
  | _, _, .int i => .int i
  | _, _, .str x => .str x
  | _, _, .tup a b c => .tup (a.rez h b) b (Reps.rez h c)
  | _, _, .lst (.inl ⟨a, .inl b⟩) c => .lst (.inl ⟨a.rez h b, .inl b⟩) (Reps.rez h c)
  | _, _, .lst (.inl ⟨a, .inr ⟨o, b⟩⟩) c => .lst (.inl ⟨a.rez h b, .inr ⟨o, b⟩⟩) (Reps.rez h c)
  | _, _, .lst (.inr a) c => .lst (.inr a) (Reps.rez h c)
  | _, _, .ref a => .ref a
theorem Reps.rez {L : Lg} {H : Hp} {Z : Addr → Prop} (h : Zs M H Z) : ∀ {d : List D} {v : List V}, Reps M L H d v → Reps (M.z Z) L H d v
  | _, _, .nil => .nil
  | _, _, .cons a b => .cons (Rep.rez h a) (Reps.rez h b)
end
mutual
/-- what is hidden may change -/
theorem Rep.upd {L : Lg} {H : Hp} {p : Addr} {o : HO} (h : M.Z p) : ∀ {d : D} {v : V}, Rep M L H d v → Rep M L (L2.upd H p o) d v
  | _, _, .non => .non
  | _, _, .bl b => .bl b
  | _, _, .int i => .int i
  | _, _, .str x => .str x
  | _, _, .tup a b c => .tup a (by rw [upd_ne (a.ne h)]; exact b) (Reps.upd h c)
  | _, _, .lst (.inl ⟨a, .inl b⟩) c => .lst (.inl ⟨a, .inl (by rw [upd_ne (a.ne h)]; exact b)⟩) (Reps.upd h c)
  | _, _, .lst (.inl ⟨a, .inr ⟨o, b⟩⟩) c => .lst (.inl ⟨a, .inr ⟨o, by rw [upd_ne (a.ne h)]; exact b⟩⟩) (Reps.upd h c)
  | _, _, .lst (.inr a) c => .lst (.inr a) (Reps.upd h c)
  | _, _, .ref a => .ref a
theorem Reps.upd {L : Lg} {H : Hp} {p : Addr} {o : HO} (h : M.Z p) : ∀ {d : List D} {v : List V}, Reps M L H d v → Reps M L (L2.upd H p o) d v
  | _, _, .nil => .nil
  | _, _, .cons a b => .cons (Rep.upd h a) (Reps.upd h b)
end
mutual
theorem KRep.rez {L : Lg} {H : Hp} {Z : Addr → Prop} (h : Zs M H Z) : ∀ {k : NestedKey} {v : V}, KRep M L H k v → KRep (M.z Z) L H k v
  | _, _, .none => .none
  | _, _, .num i => .num i
  | _, _, .text x => .text x
  | _, _, .tup a b c => .tup (a.rez h b) b (KReps.rez h c)
theorem KReps.rez {L : Lg} {H : Hp} {Z : Addr → Prop} (h : Zs M H Z) : ∀ {k : List NestedKey} {v : List V}, KReps M L H k v → KReps (M.z Z) L H k v
  | _, _, .nil => .nil
  | _, _, .cons a b => .cons (KRep.rez h a) (KReps.rez h b)
end
mutual
theorem KRep.upd {L : Lg} {H : Hp} {p : Addr} {o : HO} (h : M.Z p) : ∀ {k : NestedKey} {v : V}, KRep M L H k v → KRep M L (L2.upd H p o) k v
  | _, _, .none => .none
  | _, _, .num i => .num i
  | _, _, .text x => .text x
  | _, _, .tup a b c => .tup a (by rw [upd_ne (a.ne h)]; exact b) (KReps.upd h c)
theorem KReps.upd {L : Lg} {H : Hp} {p : Addr} {o : HO} (h : M.Z p) : ∀ {k : List NestedKey} {v : List V}, KReps M L H k v → KReps M L (L2.upd H p o) k v
  | _, _, .nil => .nil
  | _, _, .cons a b => .cons (KRep.upd h a) (KReps.upd h b)
end
theorem CellOk.rez {L : Lg} {H : Hp} {Z : Addr → Prop} (h : Zs M H Z) {q : Addr} {c : Cell} (k : CellOk M L H q c) : CellOk (M.z Z) L H q c := by
  cases c with
  | lst ds => obtain ⟨xs, e, r⟩ := k; exact ⟨xs, e, r.rez h⟩
  | dct kvs => obtain ⟨xs, e, r, z⟩ := k; exact ⟨xs, e, Paired.mapP r fun _ _ ⟨a, b, c, v, d, e⟩ => ⟨a, b, c.rez h, v, d.rez h, e⟩, z⟩
  | ins C fs => obtain ⟨dx, vs, e, y, f, r⟩ := k; exact ⟨dx, vs, e, y, f.rez h y, Paired.mapP r fun _ _ z => ⟨z.1, z.2.rez h⟩⟩
  | tab q => obtain ⟨ps, x, t, r⟩ := k; exact ⟨ps, x, t, fun pos cv hc => let ⟨c, e1, e2, f⟩ := r pos cv hc; ⟨c, e1, e2, f.rez h e2⟩⟩
theorem CellOk.upd {L : Lg} {H : Hp} {p q : Addr} {o : HO} {c : Cell} (h : M.Z p) (ne : q ≠ p) (k : CellOk M L H q c) : CellOk M L (L2.upd H p o) q c := by
  cases c with
  | lst ds => obtain ⟨xs, e, r⟩ := k; exact ⟨xs, by rw [upd_ne ne]; exact e, r.upd h⟩
  | dct kvs => obtain ⟨xs, e, r, z⟩ := k; exact ⟨xs, by rw [upd_ne ne]; exact e, Paired.mapP r fun _ _ ⟨a, b, c, v, d, e⟩ => ⟨a, b, c.upd h, v, d.upd h, e⟩, z⟩
  | ins C fs => obtain ⟨dx, vs, e, y, f, r⟩ := k; exact ⟨dx, vs, by rw [upd_ne ne]; exact e, by rw [upd_ne (f.ne h)]; exact y, f, Paired.mapP r fun _ _ z => ⟨z.1, z.2.upd h⟩⟩
  | tab q' => obtain ⟨ps, x, t, r⟩ := k; exact ⟨ps, by rw [upd_ne ne]; exact x, t, fun pos cv hc => let ⟨c, e1, e2, f⟩ := r pos cv hc; ⟨c, e1, by rw [upd_ne (f.ne h)]; exact e2, f⟩⟩
/-! any way in which what is free stays free -/
def Gn (M : Mo) (Z : Addr → Prop) (L L' : Lg) (H H' : Hp) : Prop := ∀ a o, Free M L a → H a = some o → Free (M.z Z) L' a ∧ H' a = some o
mutual
theorem Rep.gen {L L' : Lg} {H H' : Hp} {Z : Addr → Prop} (h : Gn M Z L L' H H') : ∀ {d : D} {v : V}, Rep M L H d v → Rep (M.z Z) L' H' d v
  | _, _, .non => .non
  | _, _, .bl b => .bl b
  | _, _, .int i => .int i
  | _, _, .str x => .str x
  | _, _, .tup a b c => .tup (h _ _ a b).1 (h _ _ a b).2 (Reps.gen h c)
  | _, _, .lst (.inl ⟨a, .inl b⟩) c => .lst (.inl ⟨(h _ _ a b).1, .inl (h _ _ a b).2⟩) (Reps.gen h c)
  | _, _, .lst (.inl ⟨a, .inr ⟨o, b⟩⟩) c => .lst (.inl ⟨(h _ _ a b).1, .inr ⟨o, (h _ _ a b).2⟩⟩) (Reps.gen h c)
  | _, _, .lst (.inr a) c => .lst (.inr a) (Reps.gen h c)
  | _, _, .ref a => .ref a
theorem Reps.gen {L L' : Lg} {H H' : Hp} {Z : Addr → Prop} (h : Gn M Z L L' H H') : ∀ {d : List D} {v : List V}, Reps M L H d v → Reps (M.z Z) L' H' d v
  | _, _, .nil => .nil
  | _, _, .cons a b => .cons (Rep.gen h a) (Reps.gen h b)
end
mutual
theorem KRep.gen {L L' : Lg} {H H' : Hp} {Z : Addr → Prop} (h : Gn M Z L L' H H') : ∀ {k : NestedKey} {v : V}, KRep M L H k v → KRep (M.z Z) L' H' k v
  | _, _, .none => .none
  | _, _, .num i => .num i
  | _, _, .text x => .text x
  | _, _, .tup a b c => .tup (h _ _ a b).1 (h _ _ a b).2 (KReps.gen h c)
theorem KReps.gen {L L' : Lg} {H H' : Hp} {Z : Addr → Prop} (h : Gn M Z L L' H H') : ∀ {k : List NestedKey} {v : List V}, KReps M L H k v → KReps (M.z Z) L' H' k v
  | _, _, .nil => .nil
  | _, _, .cons a b => .cons (KRep.gen h a) (KReps.gen h b)
end
theorem CellOk.gen {L L' : Lg} {H H' : Hp} {Z : Addr → Prop} (h : Gn M Z L L' H H') {q : Addr} {c : Cell} (hq : ∀ o, H q = some o → H' q = some o) (k : CellOk M L H q c) : CellOk (M.z Z) L' H' q c := by
  cases c with
  | lst ds => obtain ⟨xs, e, r⟩ := k; exact ⟨xs, hq _ e, r.gen h⟩
  | dct kvs => obtain ⟨xs, e, r, z⟩ := k; exact ⟨xs, hq _ e, Paired.mapP r fun _ _ ⟨a, b, c, v, d, e⟩ => ⟨a, b, c.gen h, v, d.gen h, e⟩, z⟩
  | ins C fs => obtain ⟨dx, vs, e, y, f, r⟩ := k; exact ⟨dx, vs, hq _ e, (h _ _ f y).2, (h _ _ f y).1, Paired.mapP r fun _ _ z => ⟨z.1, z.2.gen h⟩⟩
  | tab q' => obtain ⟨ps, x, t, r⟩ := k; exact ⟨ps, hq _ x, t, fun pos cv hc => let ⟨c, e1, e2, f⟩ := r pos cv hc; ⟨c, e1, (h _ _ f e2).2, (h _ _ f e2).1⟩⟩
/-- one more address hidden -/
def hide (M : Mo) (p : Addr) : Mo := M.z fun a => M.Z a ∨ a = p
theorem zs_hide {H : Hp} {p : Addr} (h : H p = none) : Zs M H fun a => M.Z a ∨ a = p := fun a o z e => z.elim id fun q => by subst q; rw [h] at e; cases e
theorem zs_show {H : Hp} {p : Addr} : Zs (hide M p) H M.Z := fun a o z e => .inl z
/-- a new address, hidden from the start -/
theorem Wd.hide {L : Lg} {H : Hp} {p : Addr} {ys : List V} (w : Wd M L H) (h : H p = none) : Wd (Wv.hide M p) L (L2.upd H p (.lst ys)) := by
  have w1 : Wd M L (L2.upd H p (.lst ys)) := w.new h
  refine ⟨fun q c e => ?_, fun a z => ?_⟩
  · have k : CellOk (Wv.hide M p) L H q c := (w.cell q c e).rez (zs_hide h)
    have ne : q ≠ p := fun z => by subst z; rw [(w.fresh h).1] at e; cases e
    exact k.upd (.inr rfl) ne
  · rcases z with z | z
    · exact w1.hid a z
    · subst z; exact ⟨(w.fresh h).1, ys, upd_same⟩
theorem Wd.updH {L : Lg} {H : Hp} {p : Addr} {ys : List V} (w : Wd M L H) (h : M.Z p) : Wd M L (L2.upd H p (.lst ys)) := by
  refine ⟨fun q c e => ?_, fun a z => ?_⟩
  · have ne : q ≠ p := fun z => by subst z; rw [(w.hid q h).1] at e; cases e
    exact (w.cell q c e).upd h ne
  · by_cases e : a = p
    · subst e; exact ⟨(w.hid a z).1, ys, upd_same⟩
    · obtain ⟨l, u, x⟩ := w.hid a z
      exact ⟨l, u, by rw [upd_ne e]; exact x⟩
theorem Wd.show {L : Lg} {H : Hp} {p : Addr} (w : Wd (Wv.hide M p) L H) : Wd M L H := ⟨fun q c e => (w.cell q c e).rez zs_show, fun a z => w.hid a (.inl z)⟩
theorem Rep.show {L : Lg} {H : Hp} {p : Addr} {d : D} {v : V} (r : Rep (Wv.hide M p) L H d v) : Rep M L H d v := r.rez zs_show
theorem Reps.show {L : Lg} {H : Hp} {p : Addr} {d : List D} {v : List V} (r : Reps (Wv.hide M p) L H d v) : Reps M L H d v := r.rez zs_show
theorem Sl.hide {L : Lg} {H : Hp} {p : Addr} {o : HO} {Δ : Sg} {σ : L2.St} (s : Sl M L H Δ σ) (h : H p = none) : Sl (Wv.hide M p) L (L2.upd H p o) Δ σ :=
  ⟨s.1, fun i d e => by
    obtain ⟨v, x, r⟩ := s.2 i d e
    exact ⟨v, x, Rep.upd (M := Wv.hide M p) (.inr rfl) (r.rez (zs_hide h))⟩⟩
theorem Sl.upd {L : Lg} {H : Hp} {p : Addr} {o : HO} {Δ : Sg} {σ : L2.St} (s : Sl M L H Δ σ) (h : M.Z p) : Sl M L (L2.upd H p o) Δ σ :=
  ⟨s.1, fun i d e => by
    obtain ⟨v, x, r⟩ := s.2 i d e
    exact ⟨v, x, r.upd h⟩⟩
end
/-! ## abstract walkers -/
section
variable {X : Cx} {e a b c : Expr} {es : List Expr} {pos : Pos} {ta tb tc : AT} {tr : ATA} {M : Mo}
/-- a sequence value: its items, and what must stay for them to be read -/
def seqOf (L : Lg) (d : D) (K : List D → (Lg → Prop) → Prop) : Prop := match d with
  | .lst ds => K ds fun _ => True
  | .tup ds => K ds fun _ => True
  | .ref p => match L p with
    | some (.lst ds) => K ds fun L' => L' p = some (.lst ds)
    | _ => False
  | _ => False
theorem seqOf_rep {L : Lg} {H : Hp} {d : D} {v : V} {K : List D → (Lg → Prop) → Prop} (w : Wd M L H) (r : Rep M L H d v) (h : seqOf L d K) :
    ∃ ds live, K ds live ∧ live L ∧ ∃ a b, v = .ref a ∧ ∀ Z, Zs M H Z → ∀ L' H', Pers L H L' H' → Wd (M.z Z) L' H' → live L' → ∃ xs, Sq M.K b H' a xs ∧ Reps (M.z Z) L' H' ds xs := by
  cases r with
  | tup la ha rs => exact ⟨_, _, h, trivial, _, false, rfl, fun Z hz L' H' p w' _ => ⟨_, SqT.of (la.mono p ha).2, (rs.rez hz).mono p⟩⟩
  | lst la rs => exact ⟨_, _, h, trivial, _, true, rfl, fun Z hz L' H' p w' _ => ⟨_, (la.mono p).sq, (rs.rez hz).mono p⟩⟩
  | ref p =>
    unfold seqOf at h
    simp only at h
    split at h
    · rename_i ds e
      refine ⟨_, _, h, e, p, true, rfl, fun Z _ L' H' _ w' l => ?_⟩
      obtain ⟨xs, x, y⟩ := w'.cell p _ l
      exact ⟨xs, SqL.of x, y⟩
    · exact h.elim
  | _ => exact h.elim
theorem iok_sq {L : Lg} {H : Hp} {a : Addr} {b : Bool} {ds : List D} {live : Lg → Prop} (h : ∀ Z, Zs M H Z → ∀ L' H', Pers L H L' H' → Wd (M.z Z) L' H' → live L' → ∃ xs, Sq M.K b H' a xs ∧ Reps (M.z Z) L' H' ds xs) : ItOk M L H (ItG M.K b a) ds live := fun Z hz L' H' p w l => by
  obtain ⟨xs, hx, r⟩ := h Z hz L' H' p w l
  have hl := r.length
  cases b with
  | true =>
    refine ⟨⟨xs, hx, by rw [hl]; exact Nat.le_refl _⟩, fun i d hd => ?_⟩
    obtain ⟨v, hv, rv⟩ := r.get hd
    refine ⟨⟨xs, v, hx, hv⟩, ?_⟩
    rintro x H'' ⟨rfl, hy⟩
    have e := hy xs hx
    rw [hv] at e
    cases e
    exact ⟨Pers.refl _ _, w, rv⟩
  | false =>
    refine ⟨⟨xs, hx, by rw [hl]; exact Nat.le_refl _⟩, fun i d hd => ?_⟩
    obtain ⟨v, hv, rv⟩ := r.get hd
    refine ⟨⟨xs, v, hx, hv⟩, ?_⟩
    rintro x H'' ⟨rfl, hy⟩
    have e := hy xs hx
    rw [hv] at e
    cases e
    exact ⟨Pers.refl _ _, w, rv⟩
def iSeq (t : AT) : AI := fun Δ L K => t Δ L fun d L1 => seqOf L1 d fun ds live => K ds live L1
theorem ai_seq {tg : Expr} (h : AE X e ta) : AIt X tg e (iSeq ta) := piW (pi_sq h) fun σ H R => by
  rintro ⟨Z, Δ, L, K, w, s, t, q⟩
  refine ⟨Z, Δ, L, _, w, s, t, fun d L1 v H1 p1 w1 r1 t1 => ?_⟩
  obtain ⟨ds, live, k, l, a, b, rfl, hs⟩ := seqOf_rep (M := X.mo.z Z) w1 r1 t1
  obtain ⟨xs, h1, _⟩ := hs Z (fun _ _ z _ => z) L1 H1 (Pers.refl _ _) w1 l
  exact ⟨a, b, rfl, ⟨xs, h1⟩, q _ _ _ _ _ p1 w1 (iok_sq (M := X.mo.z Z) hs) k⟩
/-- range(n), range(m, n) -/
def rgD (lo : Int) (n : Nat) : List D := (List.range n).map fun i => D.int (lo + (i : Nat))
theorem rgD_get {lo : Int} {n i : Nat} {d : D} (h : (rgD lo n)[i]? = some d) : i < n ∧ d = .int (lo + i) := by
  unfold rgD at h
  rw [List.getElem?_map] at h
  obtain ⟨j, h1, h2⟩ := Option.map_eq_some_iff.mp h
  obtain ⟨h3, h4⟩ := List.getElem?_eq_some_iff.mp h1
  rw [List.length_range] at h3
  rw [List.getElem_range] at h4
  subst h4
  exact ⟨h3, h2.symm⟩
theorem rgD_length {lo : Int} {n : Nat} : (rgD lo n).length = n := by unfold rgD; rw [List.length_map, List.length_range]
theorem iok_rg {L : Lg} {H : Hp} {lo : Int} {n : Nat} : ItOk M L H (Itr lo n) (rgD lo n) fun _ => True := fun Z hz L' H' p w _ => by
  refine ⟨by show n ≤ (rgD lo n).length; rw [rgD_length]; exact Nat.le_refl _, fun i d hd => ?_⟩
  obtain ⟨h1, rfl⟩ := rgD_get hd
  refine ⟨h1, ?_⟩
  rintro x H'' ⟨rfl, rfl⟩
  exact ⟨Pers.refl _ _, w, .int _⟩
def iRg1 (t : AT) : AI := fun Δ L K => t Δ L fun d L1 => match d with
  | .int n => -1000000 ≤ n ∧ n ≤ 1000000 ∧ K (rgD 0 n.toNat) (fun _ => True) L1
  | _ => False
def iRg2 (t u : AT) : AI := fun Δ L K => t Δ L fun d L1 => u Δ L1 fun d2 L2 => match d, d2 with
  | .int m, .int n => (-1000000 ≤ m ∧ m ≤ 1000000 ∧ -1000000 ≤ n ∧ n ≤ 1000000) ∧ K (rgD m (n - m).toNat) (fun _ => True) L2
  | _, _ => False
theorem ai_range1 {tg : Expr} {p pos : Pos} (hg : Gl X "range") (hm : X.mg "range" = none) (ha : AE X a ta) (h1 : starEach [a] X.env = (false, eval a X.env) :: starEach [] X.env := by rfl) (hs : starEach [a] X.env = [(false, eval a X.env)] := by rfl) :
    AIt X tg (.Call (.Name "range" p) [a] [] pos) (iRg1 ta) := piW (pi_range1 hg hm (pa_cons ha pa_nil h1) hs) fun σ H R => by
  rintro ⟨Z, Δ, L, K, w, s, t, q⟩
  refine ⟨Z, Δ, L, _, w, s, t, fun x L1 v1 H1 p1 w1 r1 t1 => ?_⟩
  split at t1
  · cases r1
    exact ⟨_, rfl, by omega, by omega, q _ _ _ _ _ p1 w1 (iok_rg (M := X.mo.z Z)) t1.2.2⟩
  · exact t1.elim
theorem ai_range2 {tg : Expr} {p pos : Pos} (hg : Gl X "range") (hm : X.mg "range" = none) (ha : AE X a ta) (hb : AE X b tb) (h0 : starEach [a, b] X.env = (false, eval a X.env) :: starEach [b] X.env := by rfl) (h1 : starEach [b] X.env = (false, eval b X.env) :: starEach [] X.env := by rfl)
    (hs : starEach [a, b] X.env = [(false, eval a X.env), (false, eval b X.env)] := by rfl) (hs2 : starEach [b] X.env = [(false, eval b X.env)] := by rfl) :
    AIt X tg (.Call (.Name "range" p) [a, b] [] pos) (iRg2 ta tb) := piW (pi_range2 hg hm (pa_cons ha (pa_cons hb pa_nil h1) h0) hs hs2) fun σ H R => by
  rintro ⟨Z, Δ, L, K, w, s, t, q⟩
  refine ⟨Z, Δ, L, _, w, s, t, fun x L1 v1 H1 p1 w1 r1 t1 => ?_⟩
  refine ⟨Z, Δ, L1, _, w1, s.mono p1, t1, fun y L2 v2 H2 p2 w2 r2 t2 => ?_⟩
  have r1 := r1.mono p2
  split at t2
  · cases r1; cases r2
    exact ⟨_, _, rfl, by omega, q _ _ _ _ _ (p1.trans p2) w2 (iok_rg (M := X.mo.z Z)) t2.2⟩
  · exact t2.elim
/-- zip -/
def zipD : List D → List D → List D
  | x :: xs, y :: ys => .tup [x, y] :: zipD xs ys
  | _, _ => []
theorem zipD_get : ∀ {xs ys : List D} {i : Nat} {d : D}, (zipD xs ys)[i]? = some d → ∃ x y, xs[i]? = some x ∧ ys[i]? = some y ∧ d = .tup [x, y]
  | [], _, _, _, h => by simp [zipD] at h
  | _ :: _, [], _, _, h => by simp [zipD] at h
  | x :: xs, y :: ys, 0, d, h => ⟨x, y, rfl, rfl, by simp [zipD] at h; exact h.symm⟩
  | x :: xs, y :: ys, i + 1, d, h => by
    obtain ⟨x', y', h1, h2, h3⟩ := zipD_get (xs := xs) (ys := ys) (i := i) (d := d) (by simpa [zipD] using h)
    exact ⟨x', y', by simpa using h1, by simpa using h2, h3⟩
theorem zipD_length : ∀ {xs ys : List D}, (zipD xs ys).length = min xs.length ys.length
  | [], ys => by simp [zipD]
  | x :: xs, [] => by simp [zipD]
  | x :: xs, y :: ys => by simp only [zipD, List.length_cons, zipD_length (xs := xs) (ys := ys)]; omega
theorem iok_zip {L : Lg} {H : Hp} {a b : Addr} {b1 b2 : Bool} {ds es : List D} {live live2 : Lg → Prop} (h : ∀ Z, Zs M H Z → ∀ L' H', Pers L H L' H' → Wd (M.z Z) L' H' → live L' → ∃ xs, Sq M.K b1 H' a xs ∧ Reps (M.z Z) L' H' ds xs)
    (h2 : ∀ Z, Zs M H Z → ∀ L' H', Pers L H L' H' → Wd (M.z Z) L' H' → live2 L' → ∃ xs, Sq M.K b2 H' b xs ∧ Reps (M.z Z) L' H' es xs) : ItOk M L H (ItzG M.K b1 b2 a b) (zipD ds es) fun L' => live L' ∧ live2 L' := fun Z hz L' H' p w l => by
  obtain ⟨xs, hx, r⟩ := h Z hz L' H' p w l.1
  obtain ⟨ys, hy, r2⟩ := h2 Z hz L' H' p w l.2
  have hl := r.length
  have hl2 := r2.length
  refine ⟨⟨xs, ys, hx, hy, by rw [zipD_length]; omega⟩, fun i d hd => ?_⟩
  obtain ⟨x, y, e1, e2, rfl⟩ := zipD_get hd
  obtain ⟨v, hv, rv⟩ := r.get e1
  obtain ⟨u, hu, ru⟩ := r2.get e2
  refine ⟨⟨xs, ys, v, u, hx, hy, hv, hu⟩, ?_⟩
  rintro z H'' ⟨T, v', u', rfl, nT, rfl, f1, f2⟩
  have e3 := f1 xs hx
  have e4 := f2 ys hy
  rw [hv] at e3
  rw [hu] at e4
  cases e3; cases e4
  have P : Pers L' H' L' (upd H' T (.tup [v, u])) := Pers.new nT
  exact ⟨P, w.new nT, .tup (w.fresh nT) upd_same (.cons (rv.mono P) (.cons (ru.mono P) .nil))⟩
def iZip (t u : AT) : AI := fun Δ L K => t Δ L fun d L1 => u Δ L1 fun d2 L2 => seqOf L2 d fun ds live => seqOf L2 d2 fun es live2 => K (zipD ds es) (fun L' => live L' ∧ live2 L') L2
theorem ai_zip {elts : List Expr} {kk : Nat} {tpos p pos : Pos} (hg : Gl X "zip") (hm : X.mg "zip" = none) (ha : AE X a ta) (hb : AE X b tb) (h0 : starEach [a, b] X.env = (false, eval a X.env) :: starEach [b] X.env := by rfl) (h1 : starEach [b] X.env = (false, eval b X.env) :: starEach [] X.env := by rfl)
    (hpl : (backTo pos (starEach [b] X.env)).any (·.1) = false := by rfl) : AIt X (.Tuple elts kk tpos) (.Call (.Name "zip" p) [a, b] [] pos) (iZip ta tb) := piW (pi_zipG hg hm (pa_cons ha (pa_cons hb pa_nil h1) h0) h0 hpl) fun σ H R => by
  rintro ⟨Z, Δ, L, K, w, s, t, q⟩
  refine ⟨Z, Δ, L, _, w, s, t, fun x L1 v1 H1 p1 w1 r1 t1 => ?_⟩
  refine ⟨Z, Δ, L1, _, w1, s.mono p1, t1, fun y L2 v2 H2 p2 w2 r2 t2 => ?_⟩
  have r1 := r1.mono p2
  obtain ⟨ds, live, k, l, a, b, rfl, hs⟩ := seqOf_rep (M := X.mo.z Z) w2 r1 t2
  obtain ⟨es, live2, k, l2, a2, b2, rfl, hs2⟩ := seqOf_rep (M := X.mo.z Z) w2 r2 k
  obtain ⟨xs, h1, _⟩ := hs Z (fun _ _ z _ => z) L2 H2 (Pers.refl _ _) w2 l
  obtain ⟨ys, h2, _⟩ := hs2 Z (fun _ _ z _ => z) L2 H2 (Pers.refl _ _) w2 l2
  exact ⟨a, a2, b, b2, xs, ys, rfl, h1, h2, q _ _ _ _ _ (p1.trans p2) w2 (iok_zip (M := X.mo.z Z) hs hs2) k⟩
/-- enumerate -/
def enumD : Nat → List D → List D
  | _, [] => []
  | n, x :: xs => .tup [.int (n : Int), x] :: enumD (n + 1) xs
theorem enumD_get : ∀ {xs : List D} {n i : Nat} {d : D}, (enumD n xs)[i]? = some d → ∃ x, xs[i]? = some x ∧ d = .tup [.int ((n + i : Nat) : Int), x]
  | [], _, _, _, h => by simp [enumD] at h
  | x :: xs, n, 0, d, h => ⟨x, rfl, by simp [enumD] at h; exact h.symm⟩
  | x :: xs, n, i + 1, d, h => by
    obtain ⟨x', h1, h3⟩ := enumD_get (xs := xs) (n := n + 1) (i := i) (d := d) (by simpa [enumD] using h)
    exact ⟨x', by simpa using h1, by rw [h3]; congr 3; omega⟩
theorem enumD_length : ∀ {xs : List D} {n : Nat}, (enumD n xs).length = xs.length
  | [], n => rfl
  | x :: xs, n => by simp only [enumD, List.length_cons, enumD_length (xs := xs)]
theorem iok_enum {L : Lg} {H : Hp} {a : Addr} {b1 : Bool} {ds : List D} {live : Lg → Prop} (h : ∀ Z, Zs M H Z → ∀ L' H', Pers L H L' H' → Wd (M.z Z) L' H' → live L' → ∃ xs, Sq M.K b1 H' a xs ∧ Reps (M.z Z) L' H' ds xs) : ItOk M L H (IteG M.K b1 a) (enumD 0 ds) live := fun Z hz L' H' p w l => by
  obtain ⟨xs, hx, r⟩ := h Z hz L' H' p w l
  have hl := r.length
  refine ⟨⟨xs, hx, by rw [enumD_length]; omega⟩, fun i d hd => ?_⟩
  obtain ⟨x, e1, rfl⟩ := enumD_get hd
  obtain ⟨v, hv, rv⟩ := r.get e1
  refine ⟨⟨xs, v, hx, hv⟩, ?_⟩
  rintro z H'' ⟨T, v', rfl, nT, rfl, f1⟩
  have e3 := f1 xs hx
  rw [hv] at e3
  cases e3
  have P : Pers L' H' L' (upd H' T (.tup [.int (i : Nat), v])) := Pers.new nT
  rw [Nat.zero_add]
  exact ⟨P, w.new nT, .tup (w.fresh nT) upd_same (.cons (.int _) (.cons (rv.mono P) .nil))⟩
def iEnum (t : AT) : AI := fun Δ L K => t Δ L fun d L1 => seqOf L1 d fun ds live => K (enumD 0 ds) live L1
theorem ai_enum {elts : List Expr} {kk : Nat} {tpos p pos : Pos} (hg : Gl X "enumerate") (hm : X.mg "enumerate" = none) (ha : AE X a ta) (h1 : starEach [a] X.env = (false, eval a X.env) :: starEach [] X.env := by rfl) (hs : starEach [a] X.env = [(false, eval a X.env)] := by rfl) :
    AIt X (.Tuple elts kk tpos) (.Call (.Name "enumerate" p) [a] [] pos) (iEnum ta) := piW (pi_enumG hg hm (pa_cons ha pa_nil h1) hs) fun σ H R => by
  rintro ⟨Z, Δ, L, K, w, s, t, q⟩
  refine ⟨Z, Δ, L, _, w, s, t, fun x L1 v1 H1 p1 w1 r1 t1 => ?_⟩
  obtain ⟨ds, live, k, l, a, b, rfl, hs⟩ := seqOf_rep (M := X.mo.z Z) w1 r1 t1
  obtain ⟨xs, h1, _⟩ := hs Z (fun _ _ z _ => z) L1 H1 (Pers.refl _ _) w1 l
  exact ⟨a, b, xs, rfl, h1, q _ _ _ _ _ p1 w1 (iok_enum (M := X.mo.z Z) hs) k⟩

/-! ## list comprehensions -/
abbrev APTs (X : Cx) (ifs : List Expr) (t : ATT) : Prop := PTs X ifs (liftT X.mo t)
def aYes : ATT := fun _ L K => K true L
theorem apts_nil : APTs X [] aYes := ⟨fun pins s σ H Q I h => by
  obtain ⟨Z, Δ, L, K, w, s', t, q⟩ := h
  exact pts_nil.run pins s σ H Q I (q _ _ _ (Pers.refl _ _) w t)⟩
theorem apts_one {t : ATT} (h : ATE X e t) : APTs X [e] t := pts_one h
/-- item by item; acc: what is made so far -/
def lcA (live : Lg → Prop) (g : Tg) (tt : ATT) (te : AT) (Δ : Sg) : List D → List D → Lg → (List D → Lg → Prop) → Prop
  | [], acc, L, K => live L ∧ K acc L
  | d :: ds, acc, L, K => live L ∧ g.A d Δ L fun Δ' L' => tt Δ' L' fun b L2 => (b = true → te Δ' L2 fun y L3 => lcA live g tt te Δ ds (acc ++ [y]) L3 K) ∧ (b = false → lcA live g tt te Δ ds acc L2 K)
theorem lcA_live {live : Lg → Prop} {g : Tg} {tt : ATT} {te : AT} {Δ : Sg} {ds acc : List D} {L : Lg} {K : List D → Lg → Prop} (h : lcA live g tt te Δ ds acc L K) : live L := by
  cases ds with
  | nil => exact h.1
  | cons d ds => exact h.1
def aLc (ti : AI) (g : Tg) (tt : ATT) (te : AT) (vs : List Nat) : AT := fun Δ L K => ti Δ L fun its live L1 => its.length ≤ 1000000 ∧ lcA live g tt te (wipeD Δ vs) its [] L1 fun acc L2 => K (.lst acc) L2
def aLcM (ti : AI) (g : Tg) (tt : ATT) (te : AT) (vs : List Nat) : AT := fun Δ L K => ti Δ L fun its live L1 => its.length ≤ 1000000 ∧ lcA live g tt te (wipeD Δ vs) its [] L1 fun acc L2 => ∀ p, L2 p = none → K (.ref p) (put L2 p (.lst acc))

theorem liftL_run {ti : AI} {g : Tg} {tt : ATT} {te : AT} {vs : List Nat} (hvs : ∀ j ∈ g.slots, j ∈ vs) {σ : L2.St} {H : Hp} {Q : VK} {Z : Addr → Prop} {Δ : Sg} {L : Lg} {KK : List D → Lg → Prop} (w : Wd (M.z Z) L H) (s : Sl (M.z Z) L H Δ σ)
    (t : ti Δ L fun its live L1 => its.length ≤ 1000000 ∧ lcA live g tt te (wipeD Δ vs) its [] L1 KK)
    (q : ∀ acc L' xs H' Dl, (∀ o, L Dl = none → H Dl = some o → False) → ¬ Z Dl → Pers L H L' H' → Wd (hide (M.z Z) Dl) L' H' → H' Dl = some (.lst xs) → Reps (hide (M.z Z) Dl) L' H' acc xs → KK acc L' → Q (.ref Dl) H') :
    tLc (liftI M ti) (g.C M.K) (liftT M tt) (lift M te) vs σ H Q := by
  refine ⟨Z, Δ, L, _, w, s, t, fun its live L1 H1 J p1 w1 ok t1 Dl hD => ?_⟩
  obtain ⟨hz, t1⟩ := t1
  have ZD : (hide (M.z Z) Dl).Z Dl := .inr rfl
  have zs : Zs (M.z Z) H1 (hide (M.z Z) Dl).Z := zs_hide (M := M.z Z) hD
  have sH : Sl (hide (M.z Z) Dl) L1 (L2.upd H1 Dl (.lst [])) (wipeD Δ vs) (L2.wipe σ vs) := (s.mono p1).hide hD |>.wipe vs
  refine ⟨fun i m H' => i + m = its.length ∧ ∃ L' acc xs, Pers L1 H1 L' H' ∧ Wd (hide (M.z Z) Dl) L' H' ∧ Sl (hide (M.z Z) Dl) L' H' (wipeD Δ vs) (L2.wipe σ vs) ∧ H' Dl = some (.lst xs) ∧ xs.length ≤ i ∧ Reps (hide (M.z Z) Dl) L' H' acc xs ∧ lcA live g tt te (wipeD Δ vs) (its.drop i) acc L' KK,
    ⟨its.length, by omega, L1, [], [], Pers.new hD, w1.hide hD, sH, upd_same, Nat.le_refl _, .nil, by simpa using t1⟩, ?_⟩
  rintro i m H' ⟨hm, L', acc, xs, p2, w2, s2, hDl, hxs, rs, f⟩
  obtain ⟨o1, o2⟩ := ok _ zs L' H' p2 w2 (lcA_live f)
  by_cases hi : i < its.length
  · have e : its[i]? = some its[i] := List.getElem?_eq_getElem hi
    obtain ⟨hg, hy⟩ := o2 i _ e
    refine .inr ⟨hg, fun H'' => ∃ L'' acc' xs', Pers L1 H1 L'' H'' ∧ Wd (hide (M.z Z) Dl) L'' H'' ∧ Sl (hide (M.z Z) Dl) L'' H'' (wipeD Δ vs) (L2.wipe σ vs) ∧ H'' Dl = some (.lst xs') ∧ xs'.length ≤ i + 1 ∧ Reps (hide (M.z Z) Dl) L'' H'' acc' xs' ∧ lcA live g tt te (wipeD Δ vs) (its.drop (i + 1)) acc' L'' KK, ?_, fun x H'' y => ?_⟩
    · rintro H'' ⟨L'', acc', xs', a, b, b2, c, c2, d, e⟩
      exact ⟨m - 1, by omega, by omega, L'', acc', xs', a, b, b2, c, c2, d, e⟩
    · obtain ⟨p3, w3, r3⟩ := hy x H'' y
      rw [List.drop_eq_getElem_cons hi] at f
      refine Tg.run (M := hide (M.z Z) Dl) (s2.mono p3) r3 f.2 fun Δ3 σ3 s3 k3 hw => ?_
      obtain ⟨hw1, hw2⟩ := hw vs hvs
      have ww : L2.wipe (L2.wipe σ vs) vs = L2.wipe σ vs := by
        refine List.ext_getElem? fun j => ?_
        cases e1 : (L2.wipe (L2.wipe σ vs) vs)[j]? with
        | none =>
          have := List.getElem?_eq_none_iff.mp e1
          rw [wipe_length] at this
          exact (List.getElem?_eq_none_iff.mpr this).symm
        | some o =>
          cases o with
          | some z =>
            obtain ⟨a, b⟩ := wipe_some e1
            exact a.symm
          | none =>
            by_cases hj : j ∈ vs
            · have hl : j < (L2.wipe σ vs).length := by
                have := (List.getElem?_eq_some_iff.mp e1).1
                rwa [wipe_length] at this
              cases e2 : (L2.wipe σ vs)[j]? with
              | none => rw [List.getElem?_eq_none_iff] at e2; omega
              | some o2 =>
                cases o2 with
                | none => rfl
                | some z => exact absurd hj (wipe_some e2).2
            · rw [wipe_out hj] at e1
              exact e1.symm
      refine ⟨hw1.trans ww, (hide (M.z Z) Dl).Z, Δ3, L', _, w3, s3, k3, fun b L4 H4 p4 w4 k4 => ?_⟩
      have hL : L' Dl = none := (w2.hid Dl ZD).1
      have e3 : H'' Dl = some (.lst xs) := (p3 Dl hL _ hDl).2
      obtain ⟨hL4, e4⟩ := p4 Dl hL _ e3
      cases b with
      | true =>
        refine iteT ⟨(hide (M.z Z) Dl).Z, Δ3, L4, _, w4, s3.mono p4, k4.1 rfl, fun y5 L5 v H5 p5 w5 r5 k5 => ?_⟩
        obtain ⟨hL5, e5⟩ := p5 Dl hL4 _ e4
        have P5 : Pers L' H' L5 H5 := (p3.trans p4).trans p5
        refine ⟨xs, e5, Nat.lt_of_le_of_lt hxs (Nat.lt_of_lt_of_le hi (sz hz)), L5, acc ++ [y5], xs ++ [v], ?_, w5.updH ZD, (s2.mono P5).upd ZD, upd_same, by rw [List.length_append, List.length_singleton]; omega, ((rs.mono P5).upd ZD).append (.cons (r5.upd ZD) .nil), k5⟩
        intro a l o e
        obtain ⟨x1, x2⟩ := (p2.trans P5) a l o e
        exact ⟨x1, by rw [upd_ne (ne_of_none e hD)]; exact x2⟩
      | false =>
        have P4 : Pers L' H' L4 H4 := p3.trans p4
        exact iteF ⟨L4, acc, xs, p2.trans P4, w4, s2.mono P4, e4, by omega, rs.mono P4, k4.2 rfl⟩
  · rw [List.drop_of_length_le (by omega)] at f
    have ei : i = its.length := by omega
    exact .inl ⟨by rw [ei]; exact o1, q _ _ _ _ _ (fun o l e => by rw [(p1 _ l _ e).2] at hD; cases hD) (w1.fresh hD).2 (p1.trans p2) w2 hDl rs f.2⟩

section
variable {elt tg iter : Expr} {ifs : List Expr} {scope : Scope} {own : List (Str × Nat)} {ti : AI} {g : Tg} {tt : ATT} {te : AT}
theorem lift_lc (hvs : ∀ j ∈ g.slots, j ∈ own.map (·.2)) {σ : L2.St} {H : Hp} {Q : VK} (h : lift M (aLc ti g tt te (own.map (·.2))) σ H Q) : tLc (liftI M ti) (g.C M.K) (liftT M tt) (lift M te) (own.map (·.2)) σ H Q := by
  obtain ⟨Z, Δ, L, K, w, s, t, q⟩ := h
  refine liftL_run hvs w s t fun acc L' xs H' Dl nd nz p' w' e r k => ?_
  exact q _ _ _ _ p' w'.show (.lst (.inl ⟨⟨(w'.hid Dl (.inr rfl)).1, nz⟩, .inl e⟩) r.show) k
theorem lift_lcM (hvs : ∀ j ∈ g.slots, j ∈ own.map (·.2)) {σ : L2.St} {H : Hp} {Q : VK} (h : lift M (aLcM ti g tt te (own.map (·.2))) σ H Q) : tLc (liftI M ti) (g.C M.K) (liftT M tt) (lift M te) (own.map (·.2)) σ H Q := by
  obtain ⟨Z, Δ, L, K, w, s, t, q⟩ := h
  refine liftL_run hvs w s t fun acc L' xs H' Dl nd nz p' w' e r k => ?_
  have hl : L' Dl = none := (w'.hid Dl (.inr rfl)).1
  have G : Gn (hide (M.z Z) Dl) Z L' (put L' Dl (.lst acc)) H' H' := fun a o f e => by
    have ne : a ≠ Dl := f.ne (.inr rfl)
    exact ⟨⟨by rw [put_ne ne]; exact f.1, fun z => f.2 (.inl z)⟩, e⟩
  have P : Pers L H (put L' Dl (.lst acc)) H' := fun a l o x => by
    obtain ⟨x1, x2⟩ := p' a l o x
    have ne : a ≠ Dl := fun z => by subst z; exact nd o l x
    exact ⟨by rw [put_ne ne]; exact x1, x2⟩
  refine q _ _ _ _ P ⟨fun b c hb => ?_, fun b z => ?_⟩ (.ref Dl) (k Dl hl)
  · by_cases ne : b = Dl
    · subst ne
      rw [put_same] at hb; cases hb
      exact ⟨xs, e, r.gen G⟩
    · rw [put_ne ne] at hb
      exact (w'.cell b c hb).gen G fun _ x => x
  · obtain ⟨x, y⟩ := w'.hid b (.inl z)
    have ne : b ≠ Dl := fun e => nz (e ▸ z)
    exact ⟨by rw [put_ne ne]; exact x, y⟩
variable {X : Cx} {pos : Pos}
theorem ae_lc (hvs : ∀ j ∈ g.slots, j ∈ own.map (·.2)) (hc : X.calm = true) (hN : X.N.Nodup) (hi : AIt X tg iter ti) (ok : BlkOk X.N X.env.scope scope own)
    (hg : ∀ (s : Shared) (H : Hp) (C : Addr) (cl : List (Str × Addr)) (fp : List Addr), PG (X.blk s H scope (compEnvC scope cl C X.env) fp) tg (g.C X.K)) (ht : ∀ (s : Shared) (H : Hp) (C : Addr) (cl : List (Str × Addr)) (fp : List Addr), APTs (X.blk s H scope (compEnvC scope cl C X.env) fp) ifs tt)
    (he : ∀ (s : Shared) (H : Hp) (C : Addr) (cl : List (Str × Addr)) (fp : List Addr), AE (X.blk s H scope (compEnvC scope cl C X.env) fp) elt te) (hs : ∀ x, foldedSetIterable iter X.env x = pure x := by intro _; rfl) :
    AE X (.ListComp elt [⟨tg, iter, ifs, 0⟩] scope pos) (aLc ti g tt te (own.map (·.2))) := peW (pe_lc hc hN hi ok hg ht he hs) fun _ _ _ => lift_lc hvs
theorem ae_lcM (hvs : ∀ j ∈ g.slots, j ∈ own.map (·.2)) (hc : X.calm = true) (hN : X.N.Nodup) (hi : AIt X tg iter ti) (ok : BlkOk X.N X.env.scope scope own)
    (hg : ∀ (s : Shared) (H : Hp) (C : Addr) (cl : List (Str × Addr)) (fp : List Addr), PG (X.blk s H scope (compEnvC scope cl C X.env) fp) tg (g.C X.K)) (ht : ∀ (s : Shared) (H : Hp) (C : Addr) (cl : List (Str × Addr)) (fp : List Addr), APTs (X.blk s H scope (compEnvC scope cl C X.env) fp) ifs tt)
    (he : ∀ (s : Shared) (H : Hp) (C : Addr) (cl : List (Str × Addr)) (fp : List Addr), AE (X.blk s H scope (compEnvC scope cl C X.env) fp) elt te) (hs : ∀ x, foldedSetIterable iter X.env x = pure x := by intro _; rfl) :
    AE X (.ListComp elt [⟨tg, iter, ifs, 0⟩] scope pos) (aLcM ti g tt te (own.map (·.2))) := peW (pe_lc hc hN hi ok hg ht he hs) fun _ _ _ => lift_lcM hvs
/-- name = [..] -/
theorem as_setLc {i : Nat} {y : Str} {py spos : Pos} (hvs : ∀ j ∈ g.slots, j ∈ own.map (·.2)) (hc : X.calm = true) (hN : X.N.Nodup) (hy : X.N[i]? = some y) (hyl : X.env.scope.names.lookup y = some .local)
    (hsw : swapsWith (.ListComp elt [⟨tg, iter, ifs, 0⟩] scope pos) (some (.Name y py)) spos.line X.env = pure true) (hi : AIt X tg iter ti) (ok : BlkOk X.N X.env.scope scope own)
    (hg : ∀ (s : Shared) (H : Hp) (C : Addr) (cl : List (Str × Addr)) (fp : List Addr), PG (X.blk s H scope (compEnvC scope cl C X.env) fp) tg (g.C X.K)) (ht : ∀ (s : Shared) (H : Hp) (C : Addr) (cl : List (Str × Addr)) (fp : List Addr), APTs (X.blk s H scope (compEnvC scope cl C X.env) fp) ifs tt)
    (he : ∀ (s : Shared) (H : Hp) (C : Addr) (cl : List (Str × Addr)) (fp : List Addr), AE (X.blk s H scope (compEnvC scope cl C X.env) fp) elt te) (hs : ∀ x, foldedSetIterable iter X.env x = pure x := by intro _; rfl) :
    AS X (.Assign [.Name y py] (.ListComp elt [⟨tg, iter, ifs, 0⟩] scope pos) spos) (aAsg (aLc ti g tt te (own.map (·.2))) (.one i)) := psW (ps_setLc hc hN hy hyl hsw hi ok hg ht he hs) fun E σ H => by
  rintro ⟨Z, Δ, L, A, w, s, t, q⟩
  refine lift_lc hvs ⟨Z, Δ, L, _, w, s, t, fun d L1 v H1 p1 w1 r1 t1 => ?_⟩
  exact q.1 _ _ _ _ p1 w1 ((s.mono p1).set r1 i) t1
theorem as_setLcM {i : Nat} {y : Str} {py spos : Pos} (hvs : ∀ j ∈ g.slots, j ∈ own.map (·.2)) (hc : X.calm = true) (hN : X.N.Nodup) (hy : X.N[i]? = some y) (hyl : X.env.scope.names.lookup y = some .local)
    (hsw : swapsWith (.ListComp elt [⟨tg, iter, ifs, 0⟩] scope pos) (some (.Name y py)) spos.line X.env = pure true) (hi : AIt X tg iter ti) (ok : BlkOk X.N X.env.scope scope own)
    (hg : ∀ (s : Shared) (H : Hp) (C : Addr) (cl : List (Str × Addr)) (fp : List Addr), PG (X.blk s H scope (compEnvC scope cl C X.env) fp) tg (g.C X.K)) (ht : ∀ (s : Shared) (H : Hp) (C : Addr) (cl : List (Str × Addr)) (fp : List Addr), APTs (X.blk s H scope (compEnvC scope cl C X.env) fp) ifs tt)
    (he : ∀ (s : Shared) (H : Hp) (C : Addr) (cl : List (Str × Addr)) (fp : List Addr), AE (X.blk s H scope (compEnvC scope cl C X.env) fp) elt te) (hs : ∀ x, foldedSetIterable iter X.env x = pure x := by intro _; rfl) :
    AS X (.Assign [.Name y py] (.ListComp elt [⟨tg, iter, ifs, 0⟩] scope pos) spos) (aAsg (aLcM ti g tt te (own.map (·.2))) (.one i)) := psW (ps_setLc hc hN hy hyl hsw hi ok hg ht he hs) fun E σ H => by
  rintro ⟨Z, Δ, L, A, w, s, t, q⟩
  refine lift_lcM hvs ⟨Z, Δ, L, _, w, s, t, fun d L1 v H1 p1 w1 r1 t1 => ?_⟩
  exact q.1 _ _ _ _ p1 w1 ((s.mono p1).set r1 i) t1
end
end
end Wv

namespace Wv
open PySem PySem.Spec PyProof.Rows L2

/-! ## sorted -/
section
variable {prog : Program} {w : World} {A : Around} {E : Value → Shared → Prop} {s : Shared}
/-- collect over either, the heap told -/
theorem collect_sq {l : Addr} {T : String} {o : Obj} {items : Array Value} {n : Nat} {Q : List Value → Shared → Prop} (hT : T = "list" ∨ T = "tuple") (ho : s.heap.get? l = some o) (hc : o.cls = .type T) (hd : o.data = .seq items n) (hsz : items.size ≤ sizeLine)
    (hQ : Q items.toList { s with heap := (s.heap.push (seqObj "list" #[] 0)).update s.heap.objs.size (Obj.mapSeq (· ++ items)) }) : wpAny (model prog w) A (collect (.ref l)) Q E s := by
  unfold collect
  refine wpAny_bind (wpAny_runValue (codeAny_builtin F.entry_proto_collect ?_))
  rw [Around.under_plainId F.plain_proto_collect _]
  show wpAny _ A.in1 (newList [] >>= fun l' => again (.builtin "list.__iadd__" ⟨[l', .ref l], []⟩)) _ _ s
  refine wpAny_bind (wpAny_newObj_type (wpAny_pure ⟨plainId_quiet F.plain_list_iadd _, codeAny_builtin F.entry_list_iadd ?_⟩))
  rw [Around.under_plainId F.plain_list_iadd _]
  have hS : (s.heap.push (seqObj "list" #[] 0)).get? s.heap.objs.size = some (seqObj "list" #[] 0) := Heap.get?_push_size _ rfl
  have hS2 := Heap.get?_update_self (Obj.mapSeq (· ++ items)) hS rfl
  have fin : ∀ s' : Shared, s' = { s with heap := (s.heap.push (seqObj "list" #[] 0)).update s.heap.objs.size (Obj.mapSeq (· ++ items)) } → wpAny (model prog w) A (match Value.ref s.heap.objs.size with
      | Value.ref a => do
        match (← load a).data with
          | Data.seq xs _ => pure xs.toList
          | _ => unsupported "internal:collect"
      | _ => unsupported "internal:collect") Q E s' := fun s' e => by
    subst e
    refine wpAny_bind (wpAny_load hS2 (wpAny_pure ?_))
    show Q ((#[] : Array Value) ++ items).toList _
    rw [show ((#[] : Array Value) ++ items).toList = items.toList by simp]
    exact hQ
  refine wpAny_mono (wpAny_extend_seq (hsz := hsz) (A := A) (R := fun r s' => r = .ok (.ret (.ref s.heap.objs.size)) ∧ s' = { s with heap := (s.heap.push (seqObj "list" #[] 0)).update s.heap.objs.size (Obj.mapSeq (· ++ items)) })
    (s := { s with heap := s.heap.push (seqObj "list" #[] 0) }) _ l _ 0 hT hS (Heap.get?_push_of_some _ ho) hc hd ⟨rfl, rfl⟩) (fun f s' h => ?_) (fun e s' h => absurd h.1 (by simp))
  cases f with
  | done f =>
    obtain ⟨e, h⟩ := h
    cases e
    exact fin s' h
  | again c' => exact ⟨h.1, codeAny_mono h.2 fun r s'' ⟨hr, hs⟩ => by cases hr; exact fin s'' hs⟩
theorem sorted_sq {l : Addr} {b : Bool} {vs : List Value} {ns : List Int} {Q : Value → Shared → Prop} (hl : IsSq b s.heap l vs.toArray) (hI : IntsAre vs ns) (hL : vs.length ≤ sizeLine)
    (h : ∀ (h' : Heap) (out : Array Value) (ns' : List Int) (p : Addr) (e : Nat), IntsAre out.toList ns' → ns'.Perm ns → ns'.Pairwise (· ≤ ·) → s.heap.objs.size ≤ p → (∀ b o, s.heap.get? b = some o → h'.get? b = some o) →
      h'.get? p = some (seqObj "list" out e) → Q (.ref p) { s with heap := h' }) :
    wpAny (model prog w) A (call (.builtin "sorted") [.ref l]) Q E s := by
  have hT : ∃ (T : String) (o : Obj) (n : Nat), (T = "list" ∨ T = "tuple") ∧ s.heap.get? l = some o ∧ o.cls = .type T ∧ o.data = .seq vs.toArray n := by
    cases b with
    | true => obtain ⟨o, a, c, n, d⟩ := hl; exact ⟨"list", o, n, .inl rfl, a, c, d⟩
    | false => obtain ⟨o, a, c, n, d⟩ := hl; exact ⟨"tuple", o, n, .inr rfl, a, c, d⟩
  obtain ⟨T, o, n, hT, ho, hc, hd⟩ := hT
  refine Calls.call_function_entry kind_sorted plain_sorted entry_sorted (args_sorted1 _) ?_
  unfold Builtin.«sorted»
  refine wpAny_bind (m := checkCount "sorted" 1 1 _) (wpAny_pure ?_)
  refine wpAny_bind (collect_sq hT ho hc hd (by simpa using hL) ?_)
  generalize hh : (s.heap.push (seqObj "list" #[] 0)).update s.heap.objs.size (Obj.mapSeq (· ++ vs.toArray)) = h1
  have k1 : ∀ c oc, s.heap.get? c = some oc → h1.get? c = some oc := fun c oc e => by
    rw [← hh]
    exact (Heap.get?_update_other _ _ (Nat.ne_of_gt (Heap.lt_size e))).trans (Heap.get?_push_of_some _ e)
  have hle : s.heap.objs.size ≤ h1.objs.size := by
    rw [← hh, Heap.size_update, size_push']
    exact Nat.le_succ _
  refine wpAny_bind (wpAny_newList (s := { s with heap := h1 }) ?_)
  have hv : vs.toArray.toList = vs := by simp
  rw [hv]
  have hoL : (h1.push (seqObj "list" vs.toArray 0)).get? h1.objs.size = some (seqObj "list" vs.toArray 0) := Heap.get?_push_size _ rfl
  refine wpAny_bind (wpAny_holding (wpAny_call_entry slot_list_sort ⟨_, hoL, rfl⟩ entry_list_sort (list_sort_treeAny hoL hI hL fun out ns' a1 a2 a3 => ⟨_, rfl, ?_⟩) (args_list_sort _)))
  obtain ⟨e, he⟩ := sortedHeap_at (out := out) hoL
  refine wpAny_pure ⟨_, rfl, h _ out ns' _ e a1 a2 a3 hle (fun c oc hco => ?_) he⟩
  have h1c := k1 c oc hco
  have hlt : c < h1.objs.size := Heap.lt_size h1c
  rw [sortedHeap_old (Nat.ne_of_lt hlt) (by rw [size_push']; exact Nat.lt_succ_of_lt hlt), Heap.get?_push_ne _ _ _ (Nat.ne_of_lt hlt)]
  exact h1c
end
/-- insertion sort -/
def ins (x : Int) : List Int → List Int
  | [] => [x]
  | y :: ys => if x ≤ y then x :: y :: ys else y :: ins x ys
def isort : List Int → List Int
  | [] => []
  | x :: xs => ins x (isort xs)
theorem ins_perm (x : Int) : ∀ ys, (ins x ys).Perm (x :: ys)
  | [] => .refl _
  | y :: ys => by
    unfold ins; split
    · exact .refl _
    · exact ((ins_perm x ys).cons y).trans (.swap x y ys)
theorem isort_perm : ∀ xs, (isort xs).Perm xs
  | [] => .refl _
  | x :: xs => (ins_perm x _).trans ((isort_perm xs).cons x)
theorem ins_sorted (x : Int) : ∀ {ys : List Int}, ys.Pairwise (· ≤ ·) → (ins x ys).Pairwise (· ≤ ·)
  | [], _ => by simp [ins]
  | y :: ys, h => by
    unfold ins; split
    · rename_i c
      refine List.pairwise_cons.mpr ⟨fun a ha => ?_, h⟩
      rcases List.mem_cons.mp ha with e | e
      · subst e; exact c
      · exact Int.le_trans c ((List.pairwise_cons.mp h).1 a e)
    · rename_i c
      refine List.pairwise_cons.mpr ⟨fun a ha => ?_, ins_sorted x (List.pairwise_cons.mp h).2⟩
      rcases List.mem_cons.mp ((ins_perm x ys).mem_iff.mp ha) with e | e
      · subst e; omega
      · exact (List.pairwise_cons.mp h).1 a e
theorem isort_sorted : ∀ xs, (isort xs).Pairwise (· ≤ ·)
  | [] => List.Pairwise.nil
  | x :: xs => ins_sorted x (isort_sorted xs)
theorem sorted_uniq : ∀ {xs ys : List Int}, xs.Perm ys → xs.Pairwise (· ≤ ·) → ys.Pairwise (· ≤ ·) → xs = ys
  | [], ys, p, _, _ => by rw [List.nil_perm.mp p]
  | x :: xs, [], p, _, _ => by simp at p
  | x :: xs, y :: ys, p, h1, h2 => by
    have hx : x ∈ y :: ys := p.mem_iff.mp List.mem_cons_self
    have hy : y ∈ x :: xs := p.mem_iff.mpr List.mem_cons_self
    have e : x = y := by
      rcases List.mem_cons.mp hx with e | e
      · exact e
      · rcases List.mem_cons.mp hy with e2 | e2
        · exact e2.symm
        · exact Int.le_antisymm ((List.pairwise_cons.mp h1).1 y e2) ((List.pairwise_cons.mp h2).1 x e)
    subst e
    rw [sorted_uniq (List.Perm.cons_inv p) (List.pairwise_cons.mp h1).2 (List.pairwise_cons.mp h2).2]
section
variable {X : Cx} {e a b c : Expr} {es : List Expr} {pos : Pos} {ta tb tc : AT} {tr : ATA} {M : Mo}
def rSortedG (K : PySem.W.Frag) : List V → Hp → VK → Prop := fun vs H Q => ∃ (b : Bool) (a : Addr) (ns : List Int), vs = [V.ref a] ∧ Sq K b H a (ns.map V.int) ∧ ns.length ≤ 1000000 ∧ ∀ p, H p = none → Q (.ref p) (upd H p (.lst ((isort ns).map V.int)))
theorem cr_sortedG : CallR X (.builtin "sorted") (rSortedG X.K) := by
  intro pins s σ H vs us Q I r h
  obtain ⟨b, a, ns, rfl, hs, hz, q⟩ := h
  obtain ⟨its, rv, hl, _⟩ := hs.at_ I
  rw [Vals.ref1 r]
  have hi := rv.ints
  refine sorted_sq hl hi (by rw [hi.length]; exact sz hz) fun h' out ns' p e h1 h2 h3 hp hk he => ?_
  have en : ns' = isort ns := sorted_uniq (h2.trans (isort_perm ns).symm) h3 (isort_sorted ns)
  subst en
  exact ⟨.ref _, upd H p (.lst ((isort ns).map V.int)), I.laid (t' := s.toks) hk hp ⟨by rw [List.length_map, h2.length_eq]; exact sz hz, out.toList, e, vals_of_ints h1, he⟩, rfl, q p (I.hok.fresh hp)⟩
/-- what a list or a tuple holds, read at once -/
def items (L : Lg) (d : D) : Option (List D) := match see L d with
  | .lst ds => some ds
  | .tup ds => some ds
  | _ => none
theorem items_sq {L : Lg} {H : Hp} {d : D} {v : V} {ds : List D} (w : Wd M L H) (r : Rep M L H d v) (h : items L d = some ds) : ∃ a b xs, v = .ref a ∧ Sq M.K b H a xs ∧ Reps M L H ds xs := by
  unfold items at h
  split at h
  · rename_i es e
    cases h
    obtain ⟨a, xs, rfl, h, rs⟩ := rep_lst w r e
    exact ⟨a, true, xs, rfl, h, rs⟩
  · rename_i es e
    cases h
    obtain ⟨a, xs, rfl, _, h, rs⟩ := rep_tup r e
    exact ⟨a, false, xs, rfl, SqT.of h, rs⟩
  · cases h
def cSorted : ARC := fun ds L K => match ds with
  | [d] => match (items L d).bind asInts with
    | some ns => ns.length ≤ 1000000 ∧ K (.lst ((isort ns).map .int)) L
    | none => False
  | _ => False
theorem rc_sorted : RC M (rSortedG M.K) cSorted := by
  intro Z ds vs L H K Q W r t q
  unfold cSorted at t
  split at t
  · obtain ⟨v, rfl, r1⟩ := reps1 r
    split at t
    · rename_i ns e
      obtain ⟨xs, e1, e2⟩ := Option.bind_eq_some_iff.mp e
      obtain ⟨a, b, ys, rfl, h, rs⟩ := items_sq (M := M.z Z) W r1 e1
      rw [asInts_eq e2] at rs
      rw [rs.ints] at h
      exact ⟨b, a, ns, rfl, h, t.1, fun p hp => new_lst (M := M.z Z) W (Reps.of_ints _) t.2 q hp⟩
    · exact t.elim
  · exact t.elim
theorem ae_sorted {p : Pos} (hg : Gl X "sorted") (hm : X.mg "sorted" = none) (ha : AE X e ta) (hs : starEach [e] X.env = (false, eval e X.env) :: starEach [] X.env := by rfl) : AE X (.Call (.Name "sorted" p) [e] [] pos) (aCall cSorted (aCons ta aNil)) :=
  ae_B cr_sortedG rc_sorted hg hm (by decide +kernel) (aa_cons ha aa_nil hs) (he := hs)
/-- sum, max, min of ints -/
def cSum : ARC := fun ds L K => match ds with
  | [d] => match see L d with
    | .lst xs => match asInts xs with
      | some ns => K (.int ns.sum) L
      | none => False
    | _ => False
  | _ => False
theorem rc_sum : RC M (rSum M.K) cSum := by
  intro Z ds vs L H K Q W r t q
  unfold cSum at t
  split at t
  · obtain ⟨v, rfl, r1⟩ := reps1 r
    split at t
    · rename_i xs e
      obtain ⟨a, ys, rfl, h, rs⟩ := rep_lst (M := M.z Z) W r1 e
      split at t
      · rename_i bs eb
        rw [asInts_eq eb] at rs
        rw [rs.ints] at h
        exact ⟨a, bs, rfl, h, q _ _ _ _ (Pers.refl L H) W (.int _) t⟩
      · exact t.elim
    · exact t.elim
  · exact t.elim
theorem ae_sum {p : Pos} (hc : X.calm = true) (hg : Gl X "sum") (hm : X.mg "sum" = none) (ha : AE X e ta) (hs : starEach [e] X.env = (false, eval e X.env) :: starEach [] X.env := by rfl) : AE X (.Call (.Name "sum" p) [e] [] pos) (aCall cSum (aCons ta aNil)) :=
  ae_B (cr_sum hc) rc_sum hg hm (by decide +kernel) (aa_cons ha aa_nil hs) (he := hs)
def maxI : List Int → Int
  | [] => 0
  | [x] => x
  | x :: y :: r => max x (maxI (y :: r))
theorem maxI_spec : ∀ (x : Int) (r : List Int), maxI (x :: r) ∈ x :: r ∧ ∀ y ∈ x :: r, y ≤ maxI (x :: r)
  | x, [] => ⟨by simp [maxI], by simp [maxI]⟩
  | x, y :: r => by
    obtain ⟨a, b⟩ := maxI_spec y r
    show max x (maxI (y :: r)) ∈ x :: y :: r ∧ ∀ z ∈ x :: y :: r, z ≤ max x (maxI (y :: r))
    refine ⟨?_, fun z hz => ?_⟩
    · by_cases c : x ≤ maxI (y :: r)
      · rw [Int.max_eq_right c]; exact List.mem_cons_of_mem _ a
      · rw [Int.max_eq_left (by omega)]; exact List.mem_cons_self
    · rcases List.mem_cons.mp hz with e | e
      · omega
      · have := b z e; omega
def cMax : ARC := fun ds L K => match ds with
  | [d] => match see L d with
    | .lst xs => match asInts xs with
      | some ns => ns ≠ [] ∧ K (.int (maxI ns)) L
      | none => False
    | _ => False
  | _ => False
theorem rc_max : RC M (rMax M.K) cMax := by
  intro Z ds vs L H K Q W r t q
  unfold cMax at t
  split at t
  · obtain ⟨v, rfl, r1⟩ := reps1 r
    split at t
    · rename_i xs e
      obtain ⟨a, ys, rfl, h, rs⟩ := rep_lst (M := M.z Z) W r1 e
      split at t
      · rename_i bs eb
        rw [asInts_eq eb] at rs
        rw [rs.ints] at h
        obtain ⟨ne, t⟩ := t
        refine ⟨a, bs, rfl, h, List.length_pos_iff.mpr ne, fun m hm hle => ?_⟩
        cases bs with
        | nil => exact absurd rfl ne
        | cons x r =>
          obtain ⟨h1, h2⟩ := maxI_spec x r
          have : m = maxI (x :: r) := Int.le_antisymm (h2 m hm) (hle _ h1)
          rw [this]
          exact q _ _ _ _ (Pers.refl L H) W (.int _) t
      · exact t.elim
    · exact t.elim
  · exact t.elim
theorem ae_max {p : Pos} (hc : X.calm = true) (hg : Gl X "max") (hm : X.mg "max" = none) (ha : AE X e ta) (hs : starEach [e] X.env = (false, eval e X.env) :: starEach [] X.env := by rfl) : AE X (.Call (.Name "max" p) [e] [] pos) (aCall cMax (aCons ta aNil)) :=
  ae_B (cr_max hc) rc_max hg hm (by decide +kernel) (aa_cons ha aa_nil hs) (he := hs)
/-- max(i, j), min(i, j) -/
def cMax2 : ARC := fun ds L K => match ds with
  | [.int i, .int j] => K (.int (if j > i then j else i)) L
  | _ => False
def cMin2 : ARC := fun ds L K => match ds with
  | [.int i, .int j] => K (.int (if j < i then j else i)) L
  | _ => False
theorem rc_max2 : RC M (fun xs H Q => ∃ i j, xs = [.int i, .int j] ∧ Q (.int (if j > i then j else i)) H) cMax2 := by
  intro Z ds vs L H K Q W r t q
  unfold cMax2 at t
  split at t
  · obtain ⟨v, u, rfl, r1, r2⟩ := reps2 r
    cases r1; cases r2
    exact ⟨_, _, rfl, q _ _ _ _ (Pers.refl L H) W (.int _) t⟩
  · exact t.elim
theorem rc_min2 : RC M (fun xs H Q => ∃ i j, xs = [.int i, .int j] ∧ Q (.int (if j < i then j else i)) H) cMin2 := by
  intro Z ds vs L H K Q W r t q
  unfold cMin2 at t
  split at t
  · obtain ⟨v, u, rfl, r1, r2⟩ := reps2 r
    cases r1; cases r2
    exact ⟨_, _, rfl, q _ _ _ _ (Pers.refl L H) W (.int _) t⟩
  · exact t.elim
theorem ae_max2 {p : Pos} (hc : X.calm = true) (hg : Gl X "max") (hm : X.mg "max" = none) (ha : AE X a ta) (hb : AE X b tb) (h0 : starEach [a, b] X.env = (false, eval a X.env) :: starEach [b] X.env := by rfl) (h1 : starEach [b] X.env = (false, eval b X.env) :: starEach [] X.env := by rfl) (hpl : (backTo pos (starEach [b] X.env)).any (·.1) = false := by rfl) :
    AE X (.Call (.Name "max" p) [a, b] [] pos) (aCall cMax2 (aCons ta (aCons tb aNil))) :=
  ae_B (call_max2 hc) rc_max2 hg hm (by decide +kernel) (aa_cons ha (aa_cons hb aa_nil h1) h0) (he := h0) (hpl := hpl)
theorem ae_min2 {p : Pos} (hc : X.calm = true) (hg : Gl X "min") (hm : X.mg "min" = none) (ha : AE X a ta) (hb : AE X b tb) (h0 : starEach [a, b] X.env = (false, eval a X.env) :: starEach [b] X.env := by rfl) (h1 : starEach [b] X.env = (false, eval b X.env) :: starEach [] X.env := by rfl) (hpl : (backTo pos (starEach [b] X.env)).any (·.1) = false := by rfl) :
    AE X (.Call (.Name "min" p) [a, b] [] pos) (aCall cMin2 (aCons ta (aCons tb aNil))) :=
  ae_B (call_min2 hc) rc_min2 hg hm (by decide +kernel) (aa_cons ha (aa_cons hb aa_nil h1) h0) (he := h0) (hpl := hpl)
/-- list(x), tuple(x) -/
def cList : ARC := fun ds L K => match ds with
  | [d] => match items L d with
    | some xs => K (.lst xs) L
    | none => False
  | _ => False
def cListM : ARC := fun ds L K => match ds with
  | [d] => match items L d with
    | some xs => ∀ p, L p = none → K (.ref p) (put L p (.lst xs))
    | none => False
  | _ => False
def cTuple : ARC := fun ds L K => match ds with
  | [d] => match items L d with
    | some xs => K (.tup xs) L
    | none => False
  | _ => False
theorem sq_or {K : PySem.W.Frag} {b : Bool} {H : Hp} {a : Addr} {xs : List V} (h : Sq K b H a xs) : SqL K H a xs ∨ SqT K H a xs := by
  cases b with
  | true => exact .inl h
  | false => exact .inr h
theorem rc_list : RC M (fun xs H Q => ∃ p ys, xs = [.ref p] ∧ (SqL M.K H p ys ∨ SqT M.K H p ys) ∧ ∀ l, H l = none → Q (.ref l) (upd H l (.lst ys))) cList := by
  intro Z ds vs L H K Q W r t q
  unfold cList at t
  split at t
  · obtain ⟨v, rfl, r1⟩ := reps1 r
    split at t
    · rename_i xs e
      obtain ⟨a, b, ys, rfl, h, rs⟩ := items_sq (M := M.z Z) W r1 e
      exact ⟨a, ys, rfl, sq_or h, fun p hp => new_lst (M := M.z Z) W rs t q hp⟩
    · exact t.elim
  · exact t.elim
theorem rc_listM : RC M (fun xs H Q => ∃ p ys, xs = [.ref p] ∧ (SqL M.K H p ys ∨ SqT M.K H p ys) ∧ ∀ l, H l = none → Q (.ref l) (upd H l (.lst ys))) cListM := by
  intro Z ds vs L H K Q W r t q
  unfold cListM at t
  split at t
  · obtain ⟨v, rfl, r1⟩ := reps1 r
    split at t
    · rename_i xs e
      obtain ⟨a, b, ys, rfl, h, rs⟩ := items_sq (M := M.z Z) W r1 e
      exact ⟨a, ys, rfl, sq_or h, fun p hp => new_lstM (M := M.z Z) W rs t q hp⟩
    · exact t.elim
  · exact t.elim
theorem rc_tuple : RC M (fun xs H Q => ∃ p ys, xs = [.ref p] ∧ ((SqL M.K H p ys ∧ ∀ l, H l = none → Q (.ref l) (upd H l (.tup ys))) ∨ (SqT M.K H p ys ∧ Q (.ref p) H))) cTuple := by
  intro Z ds vs L H K Q W r t q
  unfold cTuple at t
  split at t
  · obtain ⟨v, rfl, r1⟩ := reps1 r
    split at t
    · rename_i xs e
      unfold items at e
      split at e
      · rename_i es e2
        cases e
        obtain ⟨a, ys, rfl, h, rs⟩ := rep_lst (M := M.z Z) W r1 e2
        exact ⟨a, ys, rfl, .inl ⟨h, fun p hp => new_tup (M := M.z Z) W rs t q hp⟩⟩
      · rename_i es e2
        cases e
        obtain ⟨a, ys, rfl, f, h, rs⟩ := rep_tup (M := M.z Z) r1 e2
        exact ⟨a, ys, rfl, .inr ⟨SqT.of h, q _ _ _ _ (Pers.refl L H) W (.tup f h rs) t⟩⟩
      · cases e
    · exact t.elim
  · exact t.elim
theorem ae_list {p : Pos} (hg : Gl X "list") (hm : X.mg "list" = none) (ha : AE X e ta) (hs : starEach [e] X.env = (false, eval e X.env) :: starEach [] X.env := by rfl) : AE X (.Call (.Name "list" p) [e] [] pos) (aCall cList (aCons ta aNil)) :=
  ae_Ty call_list_of rc_list hg hm (by decide +kernel) (aa_cons ha aa_nil hs) (he := hs)
theorem ae_listM {p : Pos} (hg : Gl X "list") (hm : X.mg "list" = none) (ha : AE X e ta) (hs : starEach [e] X.env = (false, eval e X.env) :: starEach [] X.env := by rfl) : AE X (.Call (.Name "list" p) [e] [] pos) (aCall cListM (aCons ta aNil)) :=
  ae_Ty call_list_of rc_listM hg hm (by decide +kernel) (aa_cons ha aa_nil hs) (he := hs)
theorem ae_tuple {p : Pos} (hg : Gl X "tuple") (hm : X.mg "tuple" = none) (ha : AE X e ta) (hs : starEach [e] X.env = (false, eval e X.env) :: starEach [] X.env := by rfl) : AE X (.Call (.Name "tuple" p) [e] [] pos) (aCall cTuple (aCons ta aNil)) :=
  ae_Ty call_tuple_of rc_tuple hg hm (by decide +kernel) (aa_cons ha aa_nil hs) (he := hs)
end
end Wv

namespace Wv
open PySem PySem.Spec PyProof.Rows L2

section
variable {X : Cx} {e a b c : Expr} {es : List Expr} {pos : Pos} {ta tb tc : AT} {tr : ATA} {M : Mo}
/-! ## list(range(n)), tuple(range(n)) -/
theorem rgV_rg {m n : Int} {L : Lg} {H : Hp} : Reps M L H (rgD m (n - m).toNat) (rgV m n) := by
  unfold rgD rgV
  generalize (n - m).toNat = k
  have : ∀ xs : List Nat, Reps M L H (xs.map fun (i : Nat) => D.int (m + (i : Nat))) (xs.map fun i => V.int (m + (i : Nat))) := by
    intro xs
    induction xs with
    | nil => exact .nil
    | cons x xs ih => exact .cons (.int _) ih
  exact this _
def aTupRg (t : AT) : AT := fun Δ L K => t Δ L fun d L1 => match d with
  | .int n => 0 ≤ n ∧ n ≤ 1000000 ∧ K (.tup (rgD 0 n.toNat)) L1
  | _ => False
def aLstRg (t : AT) : AT := fun Δ L K => t Δ L fun d L1 => match d with
  | .int n => 0 ≤ n ∧ n ≤ 1000000 ∧ K (.lst (rgD 0 n.toNat)) L1
  | _ => False
theorem ae_tupRg {p p2 pos pos2 : Pos} (hc : X.calm = true) (hg : Gl X "tuple") (hm : X.mg "tuple" = none) (hg2 : Gl X "range") (hm2 : X.mg "range" = none) (ha : AE X a ta) (na : starEach [a] X.env = (false, eval a X.env) :: starEach [] X.env := by rfl)
    (nb : starEach [.Call (.Name "range" p2) [a] [] pos2] X.env = (false, eval (.Call (.Name "range" p2) [a] [] pos2) X.env) :: starEach [] X.env := by rfl) :
    AE X (.Call (.Name "tuple" p) [.Call (.Name "range" p2) [a] [] pos2] [] pos) (aTupRg ta) := peW (pe_tupRg hc hg hm (prg_1 hg2 hm2 ha na) nb) fun σ H Q => by
  rintro ⟨Z, Δ, L, K, w, s, t, q⟩
  refine ⟨Z, Δ, L, _, w, s, t, fun x L1 v1 H1 p1 w1 r1 t1 => ?_⟩
  split at t1
  · cases r1
    rename_i n
    have h := rgV_rg (M := X.mo.z Z) (m := 0) (n := n) (L := L1) (H := H1)
    rw [Int.sub_zero] at h
    exact ⟨n, rfl, RgOk.of_le (by omega) (by omega) (by omega) (by omega), fun p hp => new_tup (M := X.mo.z Z) w1 h t1.2.2 (q.after p1) hp⟩
  · exact t1.elim
theorem ae_lstRg {p p2 pos pos2 : Pos} (hc : X.calm = true) (hg : Gl X "list") (hm : X.mg "list" = none) (hg2 : Gl X "range") (hm2 : X.mg "range" = none) (ha : AE X a ta) (na : starEach [a] X.env = (false, eval a X.env) :: starEach [] X.env := by rfl)
    (nb : starEach [.Call (.Name "range" p2) [a] [] pos2] X.env = (false, eval (.Call (.Name "range" p2) [a] [] pos2) X.env) :: starEach [] X.env := by rfl) :
    AE X (.Call (.Name "list" p) [.Call (.Name "range" p2) [a] [] pos2] [] pos) (aLstRg ta) := peW (pe_listRg hc hg hm (prg_1 hg2 hm2 ha na) nb) fun σ H Q => by
  rintro ⟨Z, Δ, L, K, w, s, t, q⟩
  refine ⟨Z, Δ, L, _, w, s, t, fun x L1 v1 H1 p1 w1 r1 t1 => ?_⟩
  split at t1
  · cases r1
    rename_i n
    have h := rgV_rg (M := X.mo.z Z) (m := 0) (n := n) (L := L1) (H := H1)
    rw [Int.sub_zero] at h
    exact ⟨n, rfl, RgOk.of_le (by omega) (by omega) (by omega) (by omega), fun p hp => new_lst (M := X.mo.z Z) w1 h t1.2.2 (q.after p1) hp⟩
  · exact t1.elim

/-! ## slices, items -/
abbrev AO := Sg → Lg → (Option Int → Lg → Prop) → Prop
def liftO (M : Mo) (t : AO) : TO := fun σ H Q => ∃ Z Δ L K, Wd (M.z Z) L H ∧ Sl (M.z Z) L H Δ σ ∧ t Δ L K ∧ ∀ o L' H', Pers L H L' H' → Wd (M.z Z) L' H' → K o L' → Q o H'
abbrev APO (X : Cx) (e : Option Expr) (t : AO) : Prop := PO X e (liftO X.mo t)
theorem poW {e : Option Expr} {t1 t2 : TO} (h : PO X e t1) (w : ∀ σ H Q, t2 σ H Q → t1 σ H Q) : PO X e t2 := ⟨fun pins s σ H Q I k => h.run pins s σ H Q I (w _ _ _ k)⟩
def oNone : AO := fun _ L K => K none L
def oSome (t : AT) : AO := fun Δ L K => t Δ L fun d L1 => match d with
  | .int i => K (some i) L1
  | _ => False
theorem apo_none : APO X none oNone := poW po_none fun σ H Q => by
  rintro ⟨Z, Δ, L, K, w, s, t, q⟩
  exact q _ _ _ (Pers.refl _ _) w t
theorem apo_some (h : AE X e ta) : APO X (some e) (oSome ta) := poW (po_some h) fun σ H Q => by
  rintro ⟨Z, Δ, L, K, w, s, t, q⟩
  refine ⟨Z, Δ, L, _, w, s, t, fun x L1 v1 H1 p1 w1 r1 t1 => ?_⟩
  split at t1
  · cases r1
    exact ⟨_, rfl, q _ _ _ p1 w1 t1⟩
  · exact t1.elim
def cut {α : Type} (xs : List α) (lo hi : Option Int) : List α := (xs.drop (HT.sIx xs.length 0 lo)).take (HT.sIx xs.length xs.length hi - HT.sIx xs.length 0 lo)
def aSl (t : AT) (lo hi : AO) : AT := fun Δ L K => t Δ L fun d L1 => lo Δ L1 fun l L2 => hi Δ L2 fun u L3 => match see L3 d with
  | .lst ds => K (.lst (cut ds l u)) L3
  | .tup ds => K (.tup (cut ds l u)) L3
  | _ => False
theorem ae_sl {lo hi : Option Expr} {tl th : AO} {p2 : Pos} (he : AE X e ta) (hl : APO X lo tl) (hu : APO X hi th) : AE X (.Subscript e (.Slice lo hi none p2) pos) (aSl ta tl th) := peW (pe_slice (SlR.or sl_list sl_tupA) he hl hu) fun σ H Q => by
  rintro ⟨Z, Δ, L, K, w, s, t, q⟩
  refine ⟨Z, Δ, L, _, w, s, t, fun x L1 v1 H1 p1 w1 r1 t1 => ?_⟩
  refine ⟨Z, Δ, L1, _, w1, s.mono p1, t1, fun l L2 H2 p2 w2 t2 => ?_⟩
  refine ⟨Z, Δ, L2, _, w2, s.mono (p1.trans p2), t2, fun u L3 H3 p3 w3 t3 => ?_⟩
  have r1 := (r1.mono p2).mono p3
  have P := (p1.trans p2).trans p3
  split at t3
  · rename_i ds e
    obtain ⟨a, xs, rfl, h, rs⟩ := rep_lst (M := X.mo.z Z) w3 r1 e
    have hl := rs.length
    refine .inl ⟨a, xs, rfl, h, fun p hp => ?_⟩
    refine new_lst (M := X.mo.z Z) w3 ?_ t3 (q.after P) hp
    unfold cut cutV
    rw [hl]
    exact (rs.drop _).take _
  · rename_i ds e
    obtain ⟨a, xs, rfl, f, h, rs⟩ := rep_tup (M := X.mo.z Z) r1 e
    have hl := rs.length
    have rc : Reps (X.mo.z Z) L3 H3 (cut ds l u) (cutV xs l u) := by
      unfold cut cutV
      rw [hl]
      exact (rs.drop _).take _
    refine .inr ⟨a, xs, rfl, SqT.of h, fun ⟨h1, h2⟩ => ?_, fun _ p hp => new_tup (M := X.mo.z Z) w3 rc t3 (q.after P) hp⟩
    have ec : cut ds l u = ds := by
      unfold cut
      rw [hl, h1, h2, List.drop_zero, ← hl]
      simp
    rw [ec] at t3
    exact q _ _ _ _ P w3 (.tup f h rs) t3
  · exact t3.elim
/-- x[::-1] -/
theorem sliceApplied_rev {prog : Program} {w : World} {A : Around} {E : Value → Shared → Prop} {s : Shared} {sl : Addr} {vl vu vk : Value} {n : Nat} {Q : Int × Int × Nat → Shared → Prop} (hs : s.heap.IsSliceOf sl vl vu vk) (pl : IsPart vl none) (pu : IsPart vu none) (pk : IsPart vk (some (-1)))
    (h : Q ((n : Int) - 1, -1, n) s) : wpAny (model prog w) A (Builtin.Slice.sliceApplied (.ref sl) (pure (n : Int))) Q E s := by
  obtain ⟨os, hos, hcs, hds⟩ := id hs
  unfold Builtin.Slice.sliceApplied Builtin.Slice.sliceFields
  refine wpAny_bind (wpAny_bind (wpAny_field hos hds (x := vl) rfl (wpAny_bind (wpAny_field hos hds (x := vu) rfl (wpAny_bind (wpAny_field hos hds (x := vk) rfl (wpAny_pure ?_)))))))
  refine wpAny_bind (HT.slicePart_ pk ?_)
  show wpAny _ _ (if ((-1 : Int) == 0) = true then _ else _) _ _ s
  rw [if_neg (by decide)]
  refine wpAny_bind (HT.slicePart_ pl (wpAny_bind (HT.slicePart_ pu (wpAny_bind (wpAny_pure ?_)))))
  have e1 : Builtin.Slice.sliceAdjust none none (-1) (n : Int) = ((n : Int) - 1, -1) := by
    unfold Builtin.Slice.sliceAdjust
    simp
  have e2 : Builtin.Slice.slicePlaces ((n : Int) - 1) (-1) (-1) = n := by
    unfold Builtin.Slice.slicePlaces
    have h1 : ¬ ((-1 : Int) > 0) := by omega
    simp only [h1, if_false]
    by_cases c : n = 0
    · subst c; rfl
    · rw [if_pos (by omega)]
      have : (-(-1 : Int)) = 1 := rfl
      rw [this, Int.ediv_one]
      omega
  show wpAny _ _ (match Builtin.Slice.sliceAdjust none none (-1) (n : Int) with | (lo, hi) => pure (lo, (-1 : Int), Builtin.Slice.slicePlaces lo hi (-1))) _ _ s
  rw [e1]
  show wpAny _ _ (pure ((n : Int) - 1, (-1 : Int), Builtin.Slice.slicePlaces ((n : Int) - 1) (-1) (-1))) _ _ s
  rw [e2]
  exact wpAny_pure h
theorem pick_rev (xs : Array Value) : ((List.range xs.size).filterMap fun (m : Nat) => xs[(((xs.size : Nat) : Int) - 1 + (m : Int) * -1).toNat]?) = xs.toList.reverse := by
  have e : ∀ m ∈ List.range xs.size, xs[(((xs.size : Nat) : Int) - 1 + (m : Int) * -1).toNat]? = some (xs.toList.reverse.getD m .none) := by
    intro m hm
    have hm := List.mem_range.mp hm
    have e1 : (((xs.size : Nat) : Int) - 1 + (m : Int) * -1).toNat = xs.size - 1 - m := by omega
    rw [e1]
    have h1 : m < xs.toList.reverse.length := by rw [List.length_reverse, Array.length_toList]; exact hm
    rw [List.getD_eq_getElem?_getD, List.getElem?_eq_getElem h1]
    show xs[xs.size - 1 - m]? = some _
    rw [← Array.getElem?_toList, List.getElem_reverse]
    have h2 : xs.toList.length - 1 - m < xs.toList.length := by rw [Array.length_toList]; omega
    rw [show xs.size - 1 - m = xs.toList.length - 1 - m by rw [Array.length_toList], List.getElem?_eq_getElem h2]
    rfl
  have fm : ∀ (l : List Nat) (f : Nat → Option Value) (g : Nat → Value), (∀ m ∈ l, f m = some (g m)) → l.filterMap f = l.map g := by
    intro l f g
    induction l with
    | nil => intro _; rfl
    | cons a l ih =>
      intro h
      rw [List.filterMap_cons, h a List.mem_cons_self, List.map_cons, ih fun m hm => h m (List.mem_cons_of_mem _ hm)]
  rw [fm _ _ _ e]
  refine List.ext_getElem? fun i => ?_
  rw [List.getElem?_map]
  by_cases h : i < xs.size
  · have h1 : i < xs.toList.reverse.length := by rw [List.length_reverse, Array.length_toList]; exact h
    rw [List.getElem?_range h, List.getElem?_eq_getElem h1]
    show some (xs.toList.reverse.getD i .none) = _
    rw [List.getD_eq_getElem?_getD, List.getElem?_eq_getElem h1]
    rfl
  · rw [List.getElem?_eq_none (by rw [List.length_range]; omega), List.getElem?_eq_none (by rw [List.length_reverse, Array.length_toList]; omega)]
    rfl
theorem getItem_tuple_rev {prog : Program} {w : World} {A : Around} {E : Value → Shared → Prop} {s : Shared} {t sl : Addr} {items : Array Value} {vl vu vk : Value} {Q : Value → Shared → Prop} (ht : IsTup s.heap t items) (hs : s.heap.IsSliceOf sl vl vu vk) (pl : IsPart vl none) (pu : IsPart vu none) (pk : IsPart vk (some (-1)))
    (h : Q (.ref s.heap.objs.size) { s with heap := s.heap.push { cls := .type "tuple", data := .seq items.toList.reverse.toArray } }) (hsz : items.size ≤ sizeLine) : wpAny (model prog w) A (getItem (.ref t) (.ref sl)) Q E s := by
  have hok : sizeOk (.seq items.toList.reverse.toArray) := by
    show items.toList.reverse.toArray.size ≤ sizeLine
    rw [List.size_toArray, List.length_reverse, Array.length_toList]
    exact hsz
  obtain ⟨os, hos, hcs, hds⟩ := id hs
  have hTs : s.TypeIs (.ref sl) "slice" := ⟨os, hos, hcs⟩
  unfold getItem
  try with_reducible refine wpAny_holding ?_
  refine wpAny_bind (wpAny_sequenceKey ht.typeIs (by decide) ?_)
  refine wpAny_bind (wpAny_callSpecial?_slot (name := Str.ofString "__getitem__") ht.typeIs PyProof.Rows.slot_tuple_getitem
    (wpAny_call_entry PyProof.Rows.slot_tuple_getitem ht.typeIs entry_tuple_getitem ?_ (args_tuple_getitem _ _)))
  show wpAny _ _ (Builtin.Tuple.tupleItemsOf (.ref t) >>= _) _ _ s
  refine wpAny_bind (tupleItemsOf_ ht ?_)
  refine wpAny_bind (wpAny_typeOf hTs ?_)
  rw [if_pos (by decide)]
  refine wpAny_bind (sliceApplied_rev hs pl pu pk ?_)
  have hno : ¬ ((((items.size : Nat) : Int) - 1 == 0 && (-1 : Int) == 1 && items.size == items.size) = true) := by
    intro q
    rw [Bool.and_eq_true, Bool.and_eq_true] at q
    exact absurd q.1.2 (by decide)
  show wpAny _ _ (if ((((items.size : Nat) : Int) - 1 == 0 && (-1 : Int) == 1 && items.size == items.size) = true) then _ else _) _ _ s
  rw [if_neg hno, pick_rev]
  first
    | exact wpAny_bind (m := Builtin.Tuple.tupleExact _) (wpAny_newObj_type (wpAny_pure ⟨_, rfl, wpAny_pure h⟩) hok)
    | exact wpAny_bind (m := Builtin.Tuple.tupleExact _) (wpAny_newObj_type (wpAny_bind (wpAny_pure (wpAny_pure ⟨_, rfl, wpAny_pure h⟩))) hok)
    | exact wpAny_bind (wpAny_bind (m := Builtin.Tuple.tupleExact _) (wpAny_newObj_type (wpAny_pure (wpAny_pure ⟨_, rfl, wpAny_pure h⟩)) hok))
    | exact wpAny_bind (wpAny_bind (m := Builtin.Tuple.tupleExact _) (wpAny_newObj_type (wpAny_pure ⟨_, rfl, wpAny_pure h⟩) hok))
def tRevG (K : PySem.W.Frag) (te : TE) : TE := fun σ H Q => te σ H fun x H1 => ∃ b a xs, x = .ref a ∧ Sq K b H1 a xs ∧ ∀ p, H1 p = none → Q (.ref p) (upd H1 p (match b with
  | true => .lst xs.reverse
  | false => .tup xs.reverse))
theorem pe_revG {e : Expr} {te : TE} {k : Nat} {p1 p2 p3 pos : Pos} (he : PE X e te) : PE X (.Subscript e (.Slice none none (some (.UnaryOp .USub (.Constant (.int 1) k p1) p2)) p3) pos) (tRevG X.K te) := by
  refine ⟨fun pins s σ H Q I h => ?_⟩
  refine Subscript_ (thn (he.run pins s σ H _ I h) fun v s1 ⟨x, H1, I1, r1, q1⟩ => ?_)
  obtain ⟨b, a, xs, ex, hx, q⟩ := q1
  subst ex
  cases r1
  have hst : PO X (some (.UnaryOp .USub (.Constant (.int 1) k p1) p2)) (tPart (tUn (rU fun i => .int (-i)) (tC (.int 1)))) := po_some (pe_un un_neg pe_int)
  refine wpAny_Slice (thn (po_none.run pins s1 σ H1 (fun o H2 => o = none ∧ H2 = H1) I1 ⟨rfl, rfl⟩) fun vl s2 ⟨l, H2, I2, pl, el, e2⟩ => ?_)
  subst el e2
  refine thn (po_none.run pins s2 σ H2 (fun o H3 => o = none ∧ H3 = H2) I2 ⟨rfl, rfl⟩) fun vu s3 ⟨u, H3, I3, pu, eu, e3⟩ => ?_
  subst eu e3
  refine thn (hst.run pins s3 σ H3 (fun o H4 => o = some (-1) ∧ H4 = H3) I3 ⟨1, rfl, -1, rfl, rfl, rfl⟩) fun vs s4 ⟨o, H4, I4, ps, eo, e4⟩ => ?_
  subst eo e4
  have I5 : L2.Inv X pins σ H4 { s4 with heap := s4.heap.push { cls := .type "slice", data := .fields #[vl, vu, vs] } } := I4.kept (t' := s4.toks) fun b ob q => Heap.get?_push_of_some _ q
  show wpAny (model X.prog X.w) X.A (subscriptTail e (.Slice none none (some (.UnaryOp .USub (.Constant (.int 1) k p1) p2)) p3) (.ref a) (.ref s4.heap.objs.size)) (EP X pins σ Q) X.xe { s4 with heap := s4.heap.push { cls := .type "slice", data := .fields #[vl, vu, vs] } }
  cases b with
  | true =>
    obtain ⟨its, r, ht, hz⟩ := I5.list hx
    have hlen := r.length
    refine tail_any (ops := [.ref a, .ref s4.heap.objs.size]) ht.isList.typeIs (PySem.slot_list_getitem.lookup) ?_ (by with_unfolding_all rfl)
    refine wpAny_getItem_list_slice ht.isList (Heap.IsSliceOf.new _ vl vu vs) pl pu ps (by decide) ?_ (by rw [List.size_toArray]; omega)
    rw [PySem.W.krv_pick]
    refine ⟨.ref _, _, I5.laid (t' := s4.toks) (o := .lst xs.reverse) (fun b ob q => Heap.get?_push_of_some _ q) (Nat.le_refl _) ?_, rfl, q _ (I5.hok.fresh (Nat.le_refl _))⟩
    exact ⟨by rw [List.length_reverse]; exact hz, _, 0, r.reverse, Heap.get?_push_size _ rfl⟩
  | false =>
    obtain ⟨its, r, ht, hz⟩ := I5.tuple hx
    have hlen := r.length
    refine tail_any (ops := [.ref a, .ref s4.heap.objs.size]) ht.typeIs (PyProof.Rows.slot_tuple_getitem.lookup) ?_ (by with_unfolding_all rfl)
    refine getItem_tuple_rev ht (Heap.IsSliceOf.new _ vl vu vs) pl pu ps ?_ (by rw [List.size_toArray]; omega)
    refine ⟨.ref _, _, I5.laid (t' := s4.toks) (o := .tup xs.reverse) (fun b ob q => Heap.get?_push_of_some _ q) (Nat.le_refl _) ?_, rfl, q _ (I5.hok.fresh (Nat.le_refl _))⟩
    exact ⟨by rw [List.length_reverse]; exact hz, _, r.reverse, ⟨_, Heap.get?_push_size _ rfl, rfl, _, rfl⟩⟩
def aRev (t : AT) : AT := fun Δ L K => t Δ L fun d L1 => match see L1 d with
  | .lst ds => K (.lst ds.reverse) L1
  | .tup ds => K (.tup ds.reverse) L1
  | _ => False
theorem ae_rev {k : Nat} {p1 p2 p3 : Pos} (he : AE X e ta) : AE X (.Subscript e (.Slice none none (some (.UnaryOp .USub (.Constant (.int 1) k p1) p2)) p3) pos) (aRev ta) := peW (pe_revG he) fun σ H Q => by
  rintro ⟨Z, Δ, L, K, w, s, t, q⟩
  refine ⟨Z, Δ, L, _, w, s, t, fun x L1 v1 H1 p1 w1 r1 t1 => ?_⟩
  split at t1
  · rename_i ds e
    obtain ⟨a, xs, rfl, h, rs⟩ := rep_lst (M := X.mo.z Z) w1 r1 e
    exact ⟨true, a, xs, rfl, h, fun p hp => new_lst (M := X.mo.z Z) w1 rs.reverse t1 (q.after p1) hp⟩
  · rename_i ds e
    obtain ⟨a, xs, rfl, f, h, rs⟩ := rep_tup (M := X.mo.z Z) r1 e
    exact ⟨false, a, xs, rfl, SqT.of h, fun p hp => new_tup (M := X.mo.z Z) w1 rs.reverse t1 (q.after p1) hp⟩
  · exact t1.elim
/-- x[i] of a list or a tuple -/
def oIx : AR2 := fun x y L K => match items L x, y with
  | some ds, .int i => match atI ds i with
    | some d => K d L
    | none => False
  | _, _ => False
theorem reps_at {L : Lg} {H : Hp} {ds : List D} {xs : List V} {i : Int} {d : D} (r : Reps M L H ds xs) (h : atI ds i = some d) : ∃ v, atI xs i = some v ∧ Rep M L H d v := by
  unfold atI at h ⊢
  rw [← r.length]
  obtain ⟨j, h1, h2⟩ := Option.bind_eq_some_iff.mp h
  obtain ⟨v, h3, h4⟩ := r.get h2
  exact ⟨v, by rw [h1]; exact h3, h4⟩
theorem ro_ix : RO M (rIx M.K) oIx := by
  intro Z x y v w L H K Q W rx ry t q
  unfold oIx at t
  split at t
  · rename_i ds i e
    split at t
    · rename_i d e2
      obtain ⟨a, b, xs, rfl, h, rs⟩ := items_sq (M := M.z Z) W rx e
      cases ry
      obtain ⟨v, h3, h4⟩ := reps_at rs e2
      cases b with
      | true => exact .inl ⟨a, xs, i, v, rfl, rfl, h, h3, q _ _ _ _ (Pers.refl L H) W h4 t⟩
      | false => exact .inr (.inl ⟨a, xs, i, v, rfl, rfl, h, h3, q _ _ _ _ (Pers.refl L H) W h4 t⟩)
    · exact t.elim
  · exact t.elim
theorem ae_item (ha : AE X a ta) (hb : AE X b tb) (hs : PlainIx b) : AE X (.Subscript a b pos) (aOp oIx ta tb) := ae_ix ix_seq ro_ix ha hb hs
/-! ## lists of the ledger: x[i] = v, append, pop, insert -/
theorem mut_lst {L : Lg} {H : Hp} {p : Addr} {ds es : List D} {ys : List V} (w : Wd M L H) (h : L p = some (.lst ds)) (r : Reps M L H es ys) : Pers L H (put L p (.lst es)) (upd H p (.lst ys)) ∧ Wd M (put L p (.lst es)) (upd H p (.lst ys)) := by
  have P : Pers L H (put L p (.lst es)) (upd H p (.lst ys)) := Pers.mut h
  exact ⟨P, w.mut h ⟨ys, upd_same, r.mono P⟩⟩
def aSetI (tv to ti : AT) : ATS := fun A Δ L => tv Δ L fun v L1 => to Δ L1 fun o L2 => ti Δ L2 fun i L3 => match o, i with
  | .ref p, .int k => match L3 p with
    | some (.lst ds) => match ixN ds.length k with
      | some j => A.nx Δ (put L3 p (.lst (ds.set j v)))
      | none => False
    | _ => False
  | _, _ => False
theorem as_setI {o i value : Expr} {tv to ti : AT} {pos' : Pos} (hv : AE X value tv) (ho : AE X o to) (hi : AE X i ti) (hs : swapsWithSole [.Subscript o i pos'] value pos.line X.env = pure false := by rfl) (hw : swappedStores [.Subscript o i pos'] value X.env = pure none := by rfl)
    (h1 : (assignEach [.Subscript o i pos'] X.env).map (·.2) = [assign (.Subscript o i pos') X.env] := by rfl)
    (ha : ∀ v, assign (.Subscript o i pos') X.env v = (do
      let ov ← holding [v] (eval o X.env)
      let iv ← holding [v, ov] (eval i X.env)
      standAt pos'
      holding [v, ov, iv] (setItem ov iv v)
      release [v, ov, iv] []) := by intro _; rfl) : AS X (.Assign [.Subscript o i pos'] value pos) (aSetI tv to ti) := psW (ps_asg hv (pg_sub ho hi set_list ha) hs hw h1) fun E σ H => by
  rintro ⟨Z, Δ, L, A, w, s, t, q⟩
  refine ⟨Z, Δ, L, _, w, s, t, fun x L1 v1 H1 p1 w1 r1 t1 => ?_⟩
  refine ⟨Z, Δ, L1, _, w1, s.mono p1, t1, fun y L2 v2 H2 p2 w2 r2 t2 => ?_⟩
  refine ⟨Z, Δ, L2, _, w2, s.mono (p1.trans p2), t2, fun z L3 v3 H3 p3 w3 r3 t3 => ?_⟩
  have P := (p1.trans p2).trans p3
  have r1 := r1.mono (p2.trans p3)
  have r2 := r2.mono p3
  cases y with
  | ref p =>
    cases z with
    | int k =>
      cases r2; cases r3
      simp only at t3
      split at t3
      · rename_i ds e
        split at t3
        · rename_i j ej
          obtain ⟨xs, hx, rs⟩ := w3.cell p _ e
          obtain ⟨P4, w4⟩ := mut_lst (M := X.mo.z Z) w3 e (rs.set r1 j)
          exact ⟨p, xs, k, j, rfl, rfl, hx, by rw [← rs.length]; exact ej, q.1 _ _ _ _ (P.trans P4) w4 (s.mono (P.trans P4)) t3⟩
        · exact t3.elim
      · exact t3.elim
    | _ => exact t3.elim
  | _ => exact t3.elim
abbrev AM := D → List D → Lg → AK → Prop
def MO (M : Mo) (r : V → List V → Hp → VK → Prop) (μ : AM) : Prop := ∀ Z x v ds vs L H K Q, Wd (M.z Z) L H → Rep (M.z Z) L H x v → Reps (M.z Z) L H ds vs → μ x ds L K → Post (M.z Z) L H K Q → r v vs H Q
/-- a method of a list of the ledger -/
def aBM (μ : AM) (to : AT) (tr : ATA) : AT := fun Δ L K => to Δ L fun x L1 => (∃ ds, see L1 x = .lst ds) ∧ tr Δ L1 fun xs L2 => μ x xs L2 K
theorem ae_bm {o : Expr} {to : AT} {name : Str} {apos : Pos} {id : String} {r : V → List V → Hp → VK → Prop} {μ : AM} (slot : Slot "list" name id) (hty : typeOf (.builtin id) = pure (.type "method_descriptor")) (hm : MtR X id r) (hμ : MO X.mo r μ) (ho : AE X o to) (ha : AA X (e :: es) tr)
    (hbase : attributeBase o name X.env (eval o X.env) = eval o X.env := by rfl)
    (hfew : ((backTo pos (starEach (e :: es) X.env)).all (fun x => !x.1) && (backToKw pos (keywordEach [] X.env)).all (fun x => x.1.isSome)
      && decide ((e :: es).length + ([] : List Keyword).length + (if ([] : List Keyword).isEmpty then 0 else 1) < 30)) = true := by rfl)
    (hline : (apos.endLine == pos.line) = true := by rfl) (hs : starEach (e :: es) X.env = (false, eval e X.env) :: starEach es X.env := by rfl) (hplain : (backTo pos (starEach es X.env)).any (·.1) = false := by rfl) :
    AE X (.Call (.Attribute o name apos) (e :: es) [] pos) (aBM μ to tr) := peW (pe_bm PySem.F.plainAttrs_list slot hty hm ho ha hbase hfew hline hs hplain) fun σ H Q => by
  rintro ⟨Z, Δ, L, K, w, s, t, q⟩
  refine ⟨Z, Δ, L, _, w, s, t, fun x L1 v1 H1 p1 w1 r1 t1 => ?_⟩
  obtain ⟨⟨ds, e⟩, t1⟩ := t1
  obtain ⟨a, xs, rfl, h, rs⟩ := rep_lst (M := X.mo.z Z) w1 r1 e
  refine ⟨.inl ⟨rfl, xs, h⟩, Z, Δ, L1, _, w1, s.mono p1, t1, fun ys L2 vs H2 p2 w2 r2 t2 => ?_⟩
  exact hμ Z _ _ _ _ _ _ _ _ w2 (r1.mono p2) r2 t2 (q.after (p1.trans p2))
def mAppend : AM := fun x ds L K => match x, ds with
  | .ref p, [d] => match L p with
    | some (.lst xs) => xs.length < 1000000 ∧ K .non (put L p (.lst (xs ++ [d])))
    | _ => False
  | _, _ => False
theorem mo_append : MO M rAppend mAppend := by
  intro Z x v ds vs L H K Q W rx rs t q
  unfold mAppend at t
  split at t
  · rename_i p d
    split at t
    · rename_i xs e
      cases rx
      obtain ⟨u, rfl, ru⟩ := reps1 rs
      obtain ⟨ys, hy, ry⟩ := W.cell p _ e
      obtain ⟨P, w2⟩ := mut_lst (M := M.z Z) W e (ry.append (.cons ru .nil))
      exact ⟨p, ys, u, rfl, rfl, hy, by rw [← ry.length]; exact Nat.lt_of_lt_of_le t.1 (sz (Nat.le_refl _)), q _ _ _ _ P w2 .non t.2⟩
    · exact t.elim
  · exact t.elim
def mPopAt : AM := fun x ds L K => match x, ds with
  | .ref p, [.int i] => match L p with
    | some (.lst xs) => 0 ≤ i ∧ i < 1000000 ∧ match xs[i.toNat]? with
      | some y => K y (put L p (.lst (xs.eraseIdx i.toNat)))
      | none => False
    | _ => False
  | _, _ => False
theorem mo_popAt : MO M rPopAt mPopAt := by
  intro Z x v ds vs L H K Q W rx rs t q
  unfold mPopAt at t
  split at t
  · rename_i p i
    split at t
    · rename_i xs e
      obtain ⟨h0, h1, t⟩ := t
      split at t
      · rename_i y ey
        cases rx
        obtain ⟨u, rfl, ru⟩ := reps1 rs
        cases ru
        obtain ⟨ys, hy, ry⟩ := W.cell p _ e
        obtain ⟨z, hz, rz⟩ := ry.get ey
        obtain ⟨P, w2⟩ := mut_lst (M := M.z Z) W e (ry.eraseIdx i.toNat)
        have hlt := (List.getElem?_eq_some_iff.mp hz).1
        refine ⟨p, ys, i, i.toNat, z, rfl, rfl, hy, by omega, by omega, ?_, hz, q _ _ _ _ P w2 (rz.mono P) t⟩
        unfold seqIndex?
        simp only [if_neg (show ¬ i < 0 by omega)]
        rw [if_pos (by simp; omega)]
      · exact t.elim
    · exact t.elim
  · exact t.elim
def mInsert : AM := fun x ds L K => match x, ds with
  | .ref p, [.int i, d] => match L p with
    | some (.lst xs) => xs.length < 1000000 ∧ 0 ≤ i ∧ i < 1000000 ∧ K .non (put L p (.lst (xs.take i.toNat ++ [d] ++ xs.drop i.toNat)))
    | _ => False
  | _, _ => False
theorem mo_insert : MO M (fun x vs H Q => ∃ (l : Addr) (xs : List V) (i : Int) (y : V), x = .ref l ∧ vs = [.int i, y] ∧ H l = some (.lst xs) ∧ xs.length < sizeLine ∧ 0 ≤ i ∧ i < 2 ^ 63 ∧
    Q .non (upd H l (.lst (xs.take i.toNat ++ [y] ++ xs.drop i.toNat)))) mInsert := by
  intro Z x v ds vs L H K Q W rx rs t q
  unfold mInsert at t
  split at t
  · rename_i p i d
    split at t
    · rename_i xs e
      cases rx
      obtain ⟨u, u2, rfl, ru, ru2⟩ := reps2 rs
      cases ru
      obtain ⟨ys, hy, ry⟩ := W.cell p _ e
      obtain ⟨P, w2⟩ := mut_lst (M := M.z Z) W e (((ry.take i.toNat).append (.cons ru2 .nil)).append (ry.drop i.toNat))
      exact ⟨p, ys, i, u2, rfl, rfl, hy, by rw [← ry.length]; exact Nat.lt_of_lt_of_le t.1 (sz (Nat.le_refl _)), t.2.1, by omega, q _ _ _ _ P w2 .non t.2.2.2⟩
    · exact t.elim
  · exact t.elim
end
end Wv

namespace Wv
open PySem PySem.Spec PyProof.Rows L2

/-! ## dicts with nested keys -/
mutual
def keyOf : D → Option NestedKey
  | .non => some .none
  | .int i => some (.num i)
  | .str x => some (.text x)
  | .tup ds => (keysOf ds).map .tup
  | .bl _ | .lst _ | .ref _ => none
def keysOf : List D → Option (List NestedKey)
  | [] => some []
  | d :: ds => match keyOf d, keysOf ds with
    | some k, some ks => some (k :: ks)
    | _, _ => none
end
def dget (kvs : List (NestedKey × D)) (k : NestedKey) : Option D := (kvs.find? fun x => decide (x.1 = k)).map (·.2)
def dput (kvs : List (NestedKey × D)) (k : NestedKey) (d : D) : List (NestedKey × D) :=
  if (dget kvs k).isSome then kvs.map fun x => if x.1 = k then (x.1, d) else x else kvs ++ [(k, d)]
section
variable {M : Mo} {L : Lg} {H : Hp}
mutual
theorem krep_of : ∀ {d : D} {v : V} {k : NestedKey}, Rep M L H d v → keyOf d = some k → KRep M L H k v
  | _, _, _, .non, h => by simp [keyOf] at h; subst h; exact .none
  | _, _, _, .int i, h => by simp [keyOf] at h; subst h; exact .num i
  | _, _, _, .str x, h => by simp [keyOf] at h; subst h; exact .text x
  | _, _, _, .tup a b c, h => by
    simp only [keyOf] at h
    obtain ⟨ks, h1, h2⟩ := Option.map_eq_some_iff.mp h
    subst h2
    exact .tup a b (kreps_of c h1)
  | _, _, _, .bl _, h => by simp [keyOf] at h
  | _, _, _, .lst _ _, h => by simp [keyOf] at h
  | _, _, _, .ref _, h => by simp [keyOf] at h
theorem kreps_of : ∀ {d : List D} {v : List V} {k : List NestedKey}, Reps M L H d v → keysOf d = some k → KReps M L H k v
  | _, _, _, .nil, h => by simp [keysOf] at h; subst h; exact .nil
  | _, _, _, .cons a b, h => by
    simp only [keysOf] at h
    split at h
    · rename_i k ks e1 e2
      cases h
      exact .cons (krep_of a e1) (kreps_of b e2)
    · cases h
end
mutual
theorem nested_is {P : Program} {w : World} {h : Heap} (ok : HOk P w H h) : ∀ {k : NestedKey} {v : V} {u : Value}, KRep M L H k v → RelV v u → NestedIs h k u
  | _, _, u, .none, r => by
    have e : u = Value.none := r
    subst e; exact .none
  | _, _, u, .num i, r => by
    obtain ⟨t, rfl⟩ := r
    exact .int i t
  | _, _, u, .text x, r => by
    obtain ⟨t, rfl⟩ := r
    exact .text x t
  | _, _, u, .tup a b c, r => by
    have e : u = Value.ref _ := r
    subst e
    obtain ⟨_, its, rs, o, h1, h2, n, h3⟩ := (show ObjOk P w H h _ (.tup _) from ok _ _ b)
    exact .tup h1 h2 h3 (by simpa using nested_all ok c rs)
theorem nested_all {P : Program} {w : World} {h : Heap} (ok : HOk P w H h) : ∀ {k : List NestedKey} {v : List V} {u : List Value}, KReps M L H k v → Vals v u → NestedAll h k u
  | _, _, _, .nil, .nil => .nil
  | _, _, _, .cons a b, .cons r rs => .cons (nested_is ok a r) (nested_all ok b rs)
end
theorem EReps.get {kvs : List (NestedKey × D)} {xs : List (NestedKey × Addr × Value)} (r : EReps M L H kvs xs) (k : NestedKey) :
    match dget kvs k with
    | some d => ∃ a u v, atKey xs k = some (a, u) ∧ Rep M L H d v ∧ RelV v u
    | none => atKey xs k = none := by
  induction r with
  | nil => rfl
  | @cons p q ps qs h t ih =>
    obtain ⟨h1, h2, h3, v, h4, h5⟩ := h
    by_cases e : p.1 = k
    · have e' : q.1 = k := h1.symm.trans e
      have e1 : dget (p :: ps) k = some p.2 := by simp [dget, List.find?_cons, e]
      rw [e1]
      exact ⟨q.2.1, q.2.2, v, by simp [atKey, List.find?_cons, e'], h4, h5⟩
    · have e' : ¬ q.1 = k := fun z => e (h1.trans z)
      have e1 : dget (p :: ps) k = dget ps k := by simp [dget, List.find?_cons, e]
      have e2 : atKey (q :: qs) k = atKey qs k := by simp [atKey, List.find?_cons, e']
      rw [e1, e2]
      exact ih
theorem EReps.some_eq {kvs : List (NestedKey × D)} {xs : List (NestedKey × Addr × Value)} (r : EReps M L H kvs xs) (k : NestedKey) : (atKey xs k).isSome = (dget kvs k).isSome := by
  have h := r.get k
  cases e : dget kvs k with
  | none => rw [e] at h; rw [h]; rfl
  | some d =>
    rw [e] at h
    obtain ⟨a, u, v, h1, _⟩ := h
    rw [h1]; rfl
theorem EReps.put {kvs : List (NestedKey × D)} {xs : List (NestedKey × Addr × Value)} (r : EReps M L H kvs xs) {k : NestedKey} {a : Addr} {d : D} {v : V} {u : Value} (hk : KRep M L H k (.ref a)) (hd : k.depth ≤ 8) (rd : Rep M L H d v) (ru : RelV v u) :
    EReps M L H (dput kvs k d) (storedH xs k a u) := by
  unfold dput storedH
  rw [r.some_eq k]
  split
  · rename_i hh
    clear hk hh
    induction r with
    | nil => exact .nil
    | @cons p q ps qs h t ih =>
      rw [List.map_cons, List.map_cons]
      refine .cons ?_ ih
      obtain ⟨h1, h2, h3, w, h4, h5⟩ := h
      unfold putAt
      by_cases e : p.1 = k
      · rw [if_pos e, if_pos (h1.symm.trans e)]; exact ⟨h1, h2, h3, v, rd, ru⟩
      · rw [if_neg e, if_neg (fun z => e (h1.trans z))]; exact ⟨h1, h2, h3, w, h4, h5⟩
  · exact Paired.snoc r ⟨rfl, hd, hk, v, rd, ru⟩
theorem EReps.length {kvs : List (NestedKey × D)} {xs : List (NestedKey × Addr × Value)} (r : EReps M L H kvs xs) : kvs.length = xs.length := Paired.length r
/-- the dict for the library's rules -/
theorem dct_of {P : Program} {w : World} {h : Heap} (ok : HOk P w H h) (hM : M.P = P ∧ M.w = w) {p : Addr} {kvs : List (NestedKey × D)} {xs : List (NestedKey × Addr × Value)} (e : H p = some (dctO M p xs)) (r : EReps M L H kvs xs) : h.DictOfH (nestedKind P w) p xs := by
  obtain ⟨rfl, rfl⟩ := hM
  obtain ⟨⟨o, es, ep, h1, h2, h3, h4, h5⟩, _⟩ := (show ObjOk M.P M.w H h p (dctO M p xs) from ok p _ e)
  refine ⟨o, es, ep, h1, h2, h3, h4, fun x hx => ?_, h5⟩
  have all : ∀ {l : List (NestedKey × D)} {m : List (NestedKey × Addr × Value)}, EReps M L H l m → ∀ x ∈ m, (nestedKind M.P M.w).is h x.1 x.2.1 := by
    intro l m q
    induction q with
    | nil => intro x hx; exact nomatch hx
    | @cons p q ps qs hq t ih =>
      intro x hx
      rcases List.mem_cons.mp hx with e | hx
      · subst e
        obtain ⟨z1, z2, z3, _⟩ := hq
        rw [z1] at z2 z3
        exact ⟨nested_is ok z3 rfl, z2⟩
      · exact ih x hx
  exact all r x hx
theorem dct_ok {P : Program} {w : World} {h : Heap} {p : Addr} {xs : List (NestedKey × Addr × Value)} {H' : Hp} (hM : M.P = P ∧ M.w = w) (d : h.DictOfH (nestedKind P w) p xs) : ObjOk P w H' h p (dctO M p xs) := by
  obtain ⟨rfl, rfl⟩ := hM
  obtain ⟨o, es, ep, h1, h2, h3, h4, _, h5⟩ := d
  refine ⟨⟨o, es, ep, h1, h2, h3, h4, h5⟩, ⟨o, h1⟩, ?_⟩
  rintro a b ⟨o, es, ep, h1, h2, h3, h4, h5⟩ k
  exact ⟨o, es, ep, k o h1, h2, h3, h4, h5⟩
end
section
variable {X : Cx} {e a b c : Expr} {es : List Expr} {pos : Pos} {ta tb tc : AT} {tr : ATA} {M : Mo}
/-- {} -/
theorem ae_dnew : AE X (.Dict [] [] pos) (fun _ L K => ∀ p, L p = none → K (.ref p) (put L p (.dct []))) := by
  refine ⟨fun pins s σ H Q I h => ?_⟩
  obtain ⟨Z, Δ, L, K, w, sl, t, q⟩ := h
  have hn : H s.heap.objs.size = none := I.hok.fresh (Nat.le_refl _)
  have hb : (s.heap.objs.size == sysModules) = false := beq_eq_false_iff_ne.mpr (Ne.symm (Nat.ne_of_lt I.big))
  have ok : ObjOk X.prog X.w (upd H s.heap.objs.size (dctO (X.mo.z Z) s.heap.objs.size [])) (s.heap.push { cls := .type "dict", data := .dict #[] }) s.heap.objs.size (dctO (X.mo.z Z) s.heap.objs.size []) :=
    dct_ok (M := X.mo.z Z) ⟨rfl, rfl⟩ ⟨_, #[], 0, Heap.get?_push_size _ rfl, ⟨rfl, rfl, rfl⟩, rfl, rfl, fun x hx => (nomatch hx), List.nodup_nil⟩
  have P : Pers L H (put L s.heap.objs.size (.dct [])) (upd H s.heap.objs.size (dctO (X.mo.z Z) s.heap.objs.size [])) := Pers.newL hn
  exact wpAny_Dict_empty ⟨.ref s.heap.objs.size, _, I.laid (t' := s.toks) (fun _ _ q => Heap.get?_push_of_some _ q) (Nat.le_refl _) ok, rfl,
    q _ _ _ _ P (w.newL hn ⟨[], upd_same, .nil, hb⟩) (.ref _) (t _ (w.fresh hn).1)⟩
def aDNew : AT := fun _ L K => ∀ p, L p = none → K (.ref p) (put L p (.dct []))
theorem ae_dnew' : AE X (.Dict [] [] pos) aDNew := ae_dnew
theorem kdepth {k : NestedKey} (h : k.depth ≤ 8) {A : Around} (hu : A.units + 64 < cLine) : (nestedKind X.prog X.w).room A.in1 := by
  show A.in1.units + 8 < cLine
  have : A.in1.units ≤ A.units + 1 := by
    show A.units + 1 ≤ _
    exact Nat.le_refl _
  omega
/-- k in d, k not in d -/
def oDIn (neg : Bool) (x y : D) (L : Lg) (K : AK) : Prop := match y with
  | .ref p => match L p with
    | some (.dct kvs) => match keyOf x with
      | some (.tup ks) => (NestedKey.tup ks).depth ≤ 8 ∧ K (.bl (xor neg (dget kvs (.tup ks)).isSome)) L
      | _ => False
    | _ => False
  | _ => False
theorem krep_ref {L : Lg} {H : Hp} {ks : List NestedKey} {v : V} (h : KRep M L H (.tup ks) v) : ∃ a, v = .ref a := by cases h; exact ⟨_, rfl⟩
def rDIn (M : Mo) (neg : Bool) : R2 := fun x y H Q => ∃ (Z : Addr → Prop) (L : Lg) (K : AK) (dx dy : D), Wd (M.z Z) L H ∧ Rep (M.z Z) L H dx x ∧ Rep (M.z Z) L H dy y ∧ oDIn neg dx dy L K ∧ Post (M.z Z) L H K Q
theorem op_din {neg : Bool} (hu : X.A.units + 64 < cLine) : OpR X (compareOp (if neg then .NotIn else .In)) (rDIn X.mo neg) := by
  rintro pins s σ H x y v u Q I rx ry ⟨Z, L, K, dx, dy, w, r1, r2, t, q⟩
  unfold oDIn at t
  split at t
  · rename_i p
    split at t
    · rename_i kvs ek
      split at t
      · rename_i ks ekx
        cases r2
        have ey : u = Value.ref p := ry
        subst ey
        have kr := krep_of r1 ekx
        obtain ⟨ax, rfl⟩ := krep_ref kr
        have ex : v = Value.ref ax := rx
        subst ex
        obtain ⟨xs, hx, er, hs⟩ := w.cell p _ ek
        have dd := dct_of (M := X.mo.z Z) I.hok ⟨rfl, rfl⟩ hx er
        have is : (nestedKind X.prog X.w).is s.heap (.tup ks) ax := ⟨nested_is I.hok kr rfl, t.1⟩
        have room := kdepth (X := X) t.1 hu
        have se := er.some_eq (.tup ks)
        cases neg with
        | true =>
          refine wpAny_notIn_heap room is hs dd ?_
          rw [se]
          exact ⟨.bl _, H, I.tok _, rfl, q _ _ _ _ (Pers.refl _ _) w (.bl _) (by simpa using t.2)⟩
        | false =>
          refine wpAny_in_heap room is hs dd ?_
          rw [se]
          exact ⟨.bl _, H, I.tok _, rfl, q _ _ _ _ (Pers.refl _ _) w (.bl _) (by simpa using t.2)⟩
      · exact t.elim
    · exact t.elim
  · exact t.elim
theorem ro_din {neg : Bool} : RO M (rDIn M neg) (oDIn neg) := fun Z x y v w L H K Q W rx ry t q => ⟨Z, L, K, x, y, W, rx, ry, t, q⟩
theorem ae_inD (hu : X.A.units + 64 < cLine) (ha : AE X a ta) (hb : AE X b tb) (hm : behindInMarks .In b = false) : AE X (.Compare a [.In] [b] pos) (aOp (oDIn false) ta tb) := ae_cmp (op_din (neg := false) hu) ro_din ha hb hm
theorem ae_ninD (hu : X.A.units + 64 < cLine) (ha : AE X a ta) (hb : AE X b tb) (hm : behindInMarks .NotIn b = false) : AE X (.Compare a [.NotIn] [b] pos) (aOp (oDIn true) ta tb) := ae_cmp (op_din (neg := true) hu) ro_din ha hb hm
theorem at_inD (hu : X.A.units + 64 < cLine) (ha : AE X a ta) (hb : AE X b tb) (hm : behindInMarks .In b = false) : ATE X (.Compare a [.In] [b] pos) (aB (aOp (oDIn false) ta tb)) := at_cmp (op_din (neg := false) hu) ro_din ha hb hm
theorem at_ninD (hu : X.A.units + 64 < cLine) (ha : AE X a ta) (hb : AE X b tb) (hm : behindInMarks .NotIn b = false) : ATE X (.Compare a [.NotIn] [b] pos) (aB (aOp (oDIn true) ta tb)) := at_cmp (op_din (neg := true) hu) ro_din ha hb hm
/-- d[k] -/
def oDGet (x y : D) (L : Lg) (K : AK) : Prop := match x with
  | .ref p => match L p with
    | some (.dct kvs) => match keyOf y with
      | some (.tup ks) => (NestedKey.tup ks).depth ≤ 8 ∧ match dget kvs (.tup ks) with
        | some d => K d L
        | none => False
      | _ => False
    | _ => False
  | _ => False
theorem ae_dget (hu : X.A.units + 64 < cLine) (ha : AE X a ta) (hb : AE X b tb) (hs : NoSl b) : AE X (.Subscript a b pos) (aOp oDGet ta tb) := by
  refine ⟨fun pins s σ H Q I h => ?_⟩
  obtain ⟨Z, Δ, L, K, w, sl, t, q⟩ := h
  refine subD_of PySem.F.slot_dict_getitem.lookup hs (thn (ha.run pins s σ H (fun v1 H1 => ∃ L1 dx, Pers L H L1 H1 ∧ Wd (X.mo.z Z) L1 H1 ∧ Rep (X.mo.z Z) L1 H1 dx v1 ∧ tb Δ L1 fun y L2 => oDGet dx y L2 K) I ⟨Z, Δ, L, _, w, sl, t, fun x L1 v1 H1 p1 w1 r1 t1 => ⟨L1, x, p1, w1, r1, t1⟩⟩) ?_)
  rintro u s1 ⟨x, H1, I1, rx, L1, dx, p1, w1, r1, t1⟩
  refine thn (hb.run pins s1 σ H1 (fun v2 H2 => ∃ L2 dy, Pers L1 H1 L2 H2 ∧ Wd (X.mo.z Z) L2 H2 ∧ Rep (X.mo.z Z) L2 H2 dy v2 ∧ oDGet dx dy L2 K) I1 ⟨Z, Δ, L1, _, w1, sl.mono p1, t1, fun y L2 v2 H2 p2 w2 r2 t2 => ⟨L2, y, p2, w2, r2, t2⟩⟩) ?_
  rintro iv s2 ⟨y, H2, I2, ry, L2, dy, p2, w2, r2, t2⟩
  have r1 := r1.mono p2
  have P := p1.trans p2
  clear t
  have t : oDGet dx dy L2 K := t2
  unfold oDGet at t
  cases dx with
  | ref p =>
    simp only at t
    split at t
    · rename_i kvs ek
      split at t
      · rename_i ks ekx
        obtain ⟨hd, t⟩ := t
        split at t
        · rename_i d ed
          cases r1
          have ex : u = Value.ref p := rx
          subst ex
          have kr := krep_of r2 ekx
          obtain ⟨ax, rfl⟩ := krep_ref kr
          have ey : iv = Value.ref ax := ry
          subst ey
          obtain ⟨xs, hx, er, hs⟩ := w2.cell p _ ek
          have dd := dct_of (M := X.mo.z Z) I2.hok ⟨rfl, rfl⟩ hx er
          have is : (nestedKind X.prog X.w).is s2.heap (.tup ks) ax := ⟨nested_is I2.hok kr rfl, hd⟩
          have g := er.get (.tup ks)
          rw [ed] at g
          obtain ⟨ga, gu, gv, g1, g2, g3⟩ := g
          refine ⟨dd.typeIs, wpAny_getItem_heap (kdepth (X := X) hd hu) is dd g1 ?_⟩
          exact ⟨gv, H2, I2.tok _, g3, q _ _ _ _ P w2 g2 t⟩
        · exact t.elim
      · exact t.elim
    · exact t.elim
  | _ => exact t.elim
/-- d[k] = v -/
def aSetD (tv to ti : AT) : ATS := fun A Δ L => tv Δ L fun v L1 => to Δ L1 fun o L2 => ti Δ L2 fun i L3 => match o with
  | .ref p => match L3 p with
    | some (.dct kvs) => match keyOf i with
      | some (.tup ks) => (NestedKey.tup ks).depth ≤ 8 ∧ kvs.length < 1000000 ∧ A.nx Δ (put L3 p (.dct (dput kvs (.tup ks) v)))
      | _ => False
    | _ => False
  | _ => False
theorem dput_len (kvs : List (NestedKey × D)) (k : NestedKey) (d : D) : (dput kvs k d).length ≤ kvs.length + 1 := by
  unfold dput
  split
  · rw [List.length_map]; omega
  · rw [List.length_append]; exact Nat.le_refl _
theorem as_setD {o i value : Expr} {tv to ti : AT} {pos' : Pos} (hu : X.A.units + 64 < cLine) (hv : AE X value tv) (ho : AE X o to) (hi : AE X i ti) (hs : swapsWithSole [.Subscript o i pos'] value pos.line X.env = pure false := by rfl) (hw : swappedStores [.Subscript o i pos'] value X.env = pure none := by rfl)
    (h1 : (assignEach [.Subscript o i pos'] X.env).map (·.2) = [assign (.Subscript o i pos') X.env] := by rfl)
    (ha : ∀ v, assign (.Subscript o i pos') X.env v = (do
      let ov ← holding [v] (eval o X.env)
      let iv ← holding [v, ov] (eval i X.env)
      standAt pos'
      holding [v, ov, iv] (setItem ov iv v)
      release [v, ov, iv] []) := by intro _; rfl) : AS X (.Assign [.Subscript o i pos'] value pos) (aSetD tv to ti) := by
  let rS : TSet := fun o i v H Q => ∃ (Z : Addr → Prop) (L : Lg) (p a : Addr) (kvs : List (NestedKey × D)) (ks : List NestedKey) (d : D), Wd (X.mo.z Z) L H ∧ o = .ref p ∧ i = .ref a ∧ L p = some (.dct kvs) ∧ KRep (X.mo.z Z) L H (.tup ks) i ∧ (NestedKey.tup ks).depth ≤ 8 ∧ kvs.length < 1000000 ∧ Rep (X.mo.z Z) L H d v ∧
    ∀ H', Pers L H (put L p (.dct (dput kvs (.tup ks) d))) H' → Wd (X.mo.z Z) (put L p (.dct (dput kvs (.tup ks) d))) H' → Q H'
  have R : PSet X rS := by
    rintro pins s σ H o i v ov iv u Q I ro ri rv ⟨Z, L, p, a, kvs, ks, d, w, rfl, rfl, ek, kr, hd, hl, rd, q⟩
    have eo : ov = Value.ref p := ro
    have ei : iv = Value.ref a := ri
    subst eo ei
    obtain ⟨xs, hx, er, hsm⟩ := w.cell p _ ek
    have dd := dct_of (M := X.mo.z Z) I.hok ⟨rfl, rfl⟩ hx er
    have is : (nestedKind X.prog X.w).is s.heap (.tup ks) a := ⟨nested_is I.hok kr rfl, hd⟩
    have hl2 := er.length
    refine wpAny_setItem_heap (hsz := sz (by omega)) (kdepth (X := X) hd hu) is dd fun h' dd' sb => ?_
    have P : Pers L H (put L p (.dct (dput kvs (.tup ks) d))) (upd H p (dctO (X.mo.z Z) p (storedH xs (.tup ks) a u))) := Pers.mut ek
    have he : ∃ q, h'.get? p = some q := let ⟨q, _, _, hq, _⟩ := dd'; ⟨q, hq⟩
    have I2 := d_write (t' := s.toks + (nestedKind X.prog X.w).draws (.tup ks)) I (by rw [hx]; exact True.intro) sb he (dct_ok (M := X.mo.z Z) (H' := upd H p (dctO (X.mo.z Z) p (storedH xs (.tup ks) a u))) ⟨rfl, rfl⟩ dd')
    exact ⟨_, I2, q _ P (w.mut ek ⟨_, upd_same, (er.put kr hd rd rv).mono P, hsm⟩)⟩
  refine psW (ps_asg hv (pg_sub ho hi R ha) hs hw h1) fun E σ H => ?_
  rintro ⟨Z, Δ, L, A, w, s, t, q⟩
  refine ⟨Z, Δ, L, _, w, s, t, fun x L1 v1 H1 p1 w1 r1 t1 => ?_⟩
  refine ⟨Z, Δ, L1, _, w1, s.mono p1, t1, fun y L2 v2 H2 p2 w2 r2 t2 => ?_⟩
  refine ⟨Z, Δ, L2, _, w2, s.mono (p1.trans p2), t2, fun z L3 v3 H3 p3 w3 r3 t3 => ?_⟩
  have P := (p1.trans p2).trans p3
  have r1 := r1.mono (p2.trans p3)
  have r2 := r2.mono p3
  cases y with
  | ref p =>
    cases r2
    simp only at t3
    split at t3
    · rename_i kvs ek
      split at t3
      · rename_i ks ekx
        have kr := krep_of r3 ekx
        obtain ⟨ax, rfl⟩ := krep_ref kr
        exact ⟨Z, L3, p, ax, kvs, ks, x, w3, rfl, rfl, ek, kr, t3.1, t3.2.1, r1, fun H' P4 w4 => q.1 _ _ _ _ (P.trans P4) w4 (s.mono (P.trans P4)) t3.2.2⟩
      · exact t3.elim
    · exact t3.elim
  | _ => exact t3.elim
end
end Wv

namespace Wv
open PySem PySem.Spec PyProof.Rows L2

/-! ## short names for what the generator prints -/
abbrev oSub : AR2 := oI0 fun i j => .int (i - j)
abbrev oMod : AR2 := oI (fun _ j => 0 < j) fun i j => .int (i % j)
abbrev oFdiv : AR2 := oI CDiv fun i j => .int (i / j)
abbrev oPow : AR2 := oI CPow fun i j => .int (i ^ j.toNat)
abbrev oMul : AR2 := oI CMul fun i j => .int (i * j)
abbrev oLt : AR2 := oI0 fun i j => .bl (decide (i < j))
abbrev oLe : AR2 := oI0 fun i j => .bl (decide (i ≤ j))
abbrev oGt : AR2 := oI0 fun i j => .bl (decide (j < i))
abbrev oGe : AR2 := oI0 fun i j => .bl (decide (j ≤ i))
abbrev pLt (i j : Int) : Bool := decide (i < j)
abbrev pLe (i j : Int) : Bool := decide (i ≤ j)
section
variable {X : Cx} {e a b c : Expr} {es : List Expr} {pos : Pos} {ta tb tc : AT} {tr : ATA} {M : Mo}
/-- sorted, reversed: a list of the ledger -/
def cSortedM : ARC := fun ds L K => match ds with
  | [d] => match (items L d).bind asInts with
    | some ns => ns.length ≤ 1000000 ∧ ∀ p, L p = none → K (.ref p) (put L p (.lst ((isort ns).map .int)))
    | none => False
  | _ => False
theorem rc_sortedM : RC M (rSortedG M.K) cSortedM := by
  intro Z ds vs L H K Q W r t q
  unfold cSortedM at t
  split at t
  · obtain ⟨v, rfl, r1⟩ := reps1 r
    split at t
    · rename_i ns e
      obtain ⟨xs, e1, e2⟩ := Option.bind_eq_some_iff.mp e
      obtain ⟨a, b, ys, rfl, h, rs⟩ := items_sq (M := M.z Z) W r1 e1
      rw [asInts_eq e2] at rs
      rw [rs.ints] at h
      exact ⟨b, a, ns, rfl, h, t.1, fun p hp => new_lstM (M := M.z Z) W (Reps.of_ints _) t.2 q hp⟩
    · exact t.elim
  · exact t.elim
theorem ae_sortedM {p : Pos} (hg : Gl X "sorted") (hm : X.mg "sorted" = none) (ha : AE X e ta) (hs : starEach [e] X.env = (false, eval e X.env) :: starEach [] X.env := by rfl) : AE X (.Call (.Name "sorted" p) [e] [] pos) (aCall cSortedM (aCons ta aNil)) :=
  ae_B cr_sortedG rc_sortedM hg hm (by decide +kernel) (aa_cons ha aa_nil hs) (he := hs)
def aRevM (t : AT) : AT := fun Δ L K => t Δ L fun d L1 => match see L1 d with
  | .lst ds => ∀ p, L1 p = none → K (.ref p) (put L1 p (.lst ds.reverse))
  | _ => False
theorem ae_revM {k : Nat} {p1 p2 p3 : Pos} (he : AE X e ta) : AE X (.Subscript e (.Slice none none (some (.UnaryOp .USub (.Constant (.int 1) k p1) p2)) p3) pos) (aRevM ta) := peW (pe_revG he) fun σ H Q => by
  rintro ⟨Z, Δ, L, K, w, s, t, q⟩
  refine ⟨Z, Δ, L, _, w, s, t, fun x L1 v1 H1 p1 w1 r1 t1 => ?_⟩
  split at t1
  · rename_i ds e
    obtain ⟨a, xs, rfl, h, rs⟩ := rep_lst (M := X.mo.z Z) w1 r1 e
    exact ⟨true, a, xs, rfl, h, fun p hp => new_lstM (M := X.mo.z Z) w1 rs.reverse t1 (q.after p1) hp⟩
  · exact t1.elim
theorem u65 {k : Nat} {A : Around} (h : Room k A) : A.units + 65 < cLine := by
  have := h.un
  omega
theorem ae_append {o : Expr} {to : AT} {apos : Pos} (ho : AE X o to) (ha : AA X (e :: es) tr)
    (hbase : attributeBase o "append" X.env (eval o X.env) = eval o X.env := by rfl)
    (hfew : ((backTo pos (starEach (e :: es) X.env)).all (fun x => !x.1) && (backToKw pos (keywordEach [] X.env)).all (fun x => x.1.isSome)
      && decide ((e :: es).length + ([] : List Keyword).length + (if ([] : List Keyword).isEmpty then 0 else 1) < 30)) = true := by rfl)
    (hline : (apos.endLine == pos.line) = true := by rfl) (hs : starEach (e :: es) X.env = (false, eval e X.env) :: starEach es X.env := by rfl) (hplain : (backTo pos (starEach es X.env)).any (·.1) = false := by rfl) :
    AE X (.Call (.Attribute o "append" apos) (e :: es) [] pos) (aBM mAppend to tr) := ae_bm PySem.F.slot_list_append PySem.F.type_list_append mt_append mo_append ho ha hbase hfew hline hs hplain
theorem ae_popAt {o : Expr} {to : AT} {apos : Pos} (ho : AE X o to) (ha : AA X (e :: es) tr)
    (hbase : attributeBase o "pop" X.env (eval o X.env) = eval o X.env := by rfl)
    (hfew : ((backTo pos (starEach (e :: es) X.env)).all (fun x => !x.1) && (backToKw pos (keywordEach [] X.env)).all (fun x => x.1.isSome)
      && decide ((e :: es).length + ([] : List Keyword).length + (if ([] : List Keyword).isEmpty then 0 else 1) < 30)) = true := by rfl)
    (hline : (apos.endLine == pos.line) = true := by rfl) (hs : starEach (e :: es) X.env = (false, eval e X.env) :: starEach es X.env := by rfl) (hplain : (backTo pos (starEach es X.env)).any (·.1) = false := by rfl) :
    AE X (.Call (.Attribute o "pop" apos) (e :: es) [] pos) (aBM mPopAt to tr) := ae_bm PySem.F.slot_list_pop PySem.F.type_list_pop mt_popAt mo_popAt ho ha hbase hfew hline hs hplain
theorem ae_insert {o : Expr} {to : AT} {apos : Pos} (ho : AE X o to) (ha : AA X (e :: es) tr)
    (hbase : attributeBase o "insert" X.env (eval o X.env) = eval o X.env := by rfl)
    (hfew : ((backTo pos (starEach (e :: es) X.env)).all (fun x => !x.1) && (backToKw pos (keywordEach [] X.env)).all (fun x => x.1.isSome)
      && decide ((e :: es).length + ([] : List Keyword).length + (if ([] : List Keyword).isEmpty then 0 else 1) < 30)) = true := by rfl)
    (hline : (apos.endLine == pos.line) = true := by rfl) (hs : starEach (e :: es) X.env = (false, eval e X.env) :: starEach es X.env := by rfl) (hplain : (backTo pos (starEach es X.env)).any (·.1) = false := by rfl) :
    AE X (.Call (.Attribute o "insert" apos) (e :: es) [] pos) (aBM mInsert to tr) := ae_bm PySem.F.slot_list_insert PySem.F.type_list_insert mt_insert mo_insert ho ha hbase hfew hline hs hplain
end
/-! ## a known def -/
/-- part of a ledger -/
def Sub (L L' : Lg) : Prop := ∀ p, L p = L' p ∨ L p = none
theorem Sub.refl (L : Lg) : Sub L L := fun _ => .inl rfl
theorem Sub.put {L : Lg} {p : Addr} {c : Cell} (h : L p = none) : Sub L (put L p c) := fun q => by
  by_cases e : q = p
  · subst e; exact .inr h
  · exact .inl (put_ne e).symm
theorem Sub.trans {L L1 L2 : Lg} (a : Sub L L1) (b : Sub L1 L2) : Sub L L2 := fun p => by
  rcases a p with h | h
  · rw [h]; exact (b p)
  · exact .inr h
/-- what a def hands back, with what it made for itself left behind -/
def Rt (K : AK) : AK := fun d L => ∃ L', Sub L' L ∧ K d L'
theorem Rt.same {K : AK} {d : D} {L : Lg} (h : K d L) : Rt K d L := ⟨L, Sub.refl L, h⟩
theorem Rt.drop {K : AK} {d : D} {L : Lg} {p : Addr} {c : Cell} (n : L p = none) (h : K d L) : Rt K d (put L p c) := ⟨L, Sub.put n, h⟩
theorem Rt.of {K : AK} {d : D} {L L' : Lg} (s : Sub L' L) (h : K d L') : Rt K d L := ⟨L', s, h⟩
theorem Post.rt {M : Mo} {L : Lg} {H : Hp} {K : AK} {Q : VK} (q : Post M L H K Q) : Post M L H (Rt K) Q := fun d L' v H' p w r k => by
  obtain ⟨L2, s, k⟩ := k
  have hn : ∀ a, L' a = none → L2 a = none := fun a e => by
    rcases s a with h | h
    · rw [h]; exact e
    · exact h
  have P : Pers L' H' L2 H' := fun a l o e => ⟨hn a l, e⟩
  refine q d L2 v H' (p.trans P) ⟨fun b c hb => ?_, fun b z => ⟨hn b (w.hid b z).1, (w.hid b z).2⟩⟩ (r.mono P) k
  rcases s b with h | h
  · rw [h] at hb; exact (w.cell b c hb).mono P fun _ x => x
  · rw [h] at hb; cases hb
structure Kn (P : Program) (w : World) (K : PySem.W.Frag) (mg : Str → Option Value) (base : Heap) (k : Nat) (x : Str) (ps : List Str) (A : ASp) : Prop where
  ex : ∃ f fd, FnOk P w K mg base CX0 k f fd ps (spOf (mo P w K) A) ∧ mg x = some (.ref f) ∧ PySem.W.keepIn K (.ref f) = true ∧ Binds K fd ps []
section
variable {P : Program} {w : World} {K : PySem.W.Frag} {mg : Str → Option Value} {base : Heap} {x : Str} {st : Stmt} {f : Addr} {fd : FuncData} {N ps : List Str} {k : Nat} {A : ASp}
theorem fnOf (F : Fun K x x st f fd) (S : FnScope N ps (defScope st)) (len : ∀ ds L Kk, A ds L Kk → ds.length = ps.length) {t : ATS}
    (hbody : ∀ (cdv : Value) (Ar : Around) (outer : List Env) (s : Shared) (H : Hp) (E : XK), Room k (Ar.deeper (envOfC x (defScope st) s.heap.objs.size f cdv)) →
      ASs (cxOf CX0 P w K mg base N x (defScope st) f cdv Ar outer s H E).nox (defBody st) t)
    (rd : ∀ ds L Kk, A ds L Kk → t { nx := fun _ L' => Rt Kk .non L', rt := Rt Kk } (startD N ds) L) : FnOk P w K mg base CX0 (k + 1) f fd ps (spOf (mo P w K) A) := by
  refine F.ok S (fun vs H Q E h => ?_) (fun cdv Ar outer s H vs Q E hr h => ?_)
  · obtain ⟨Z, ds, L, Kk, _, r, a, _⟩ := h
    rw [← r.length]
    exact len _ _ _ a
  · obtain ⟨Z, ds, L, Kk, wd, r, a, q⟩ := h
    have q2 := q.rt
    refine ⟨_, hbody cdv Ar outer s H E hr, Z, startD N ds, L, _, wd, sl_start r, rd _ _ _ a, ?_, q2, ?_, ?_⟩
    · intro Δ' L' σ' H' p' w' s' h'
      exact q2 _ _ _ _ p' w' .non h'
    · intro _ _ _ _ _ _ _ h'
      exact h'.elim
    · intro _ _ _ _ _ _ _ h'
      exact h'.elim
/-- a def of which nothing is promised -/
theorem knFalse {k : Nat} (F : Fun K x x st f fd) (g : mg x = some (.ref f)) (b : Binds K fd ps []) : Kn P w K mg base k x ps (fun _ _ _ => False) :=
  ⟨f, fd, ⟨fun _ _ _ _ ⟨_, _, _, _, _, _, h, _⟩ => h.elim, fun _ _ _ _ _ _ _ _ _ _ _ _ _ ⟨_, _, _, _, _, _, h, _⟩ => h.elim⟩, g, F.kp, b⟩
/-- a def that calls itself -/
theorem knRec {kk : Nat} {Af Ap : Nat → ASp} (F : Fun K x x st f fd) (g : mg x = some (.ref f)) (b : Binds K fd ps []) (h0 : Ap 0 = fun _ _ _ => False) (h1 : ∀ n, Ap (n + 1) = Af n)
    (step : ∀ n k, kk ≤ k → Kn P w K mg base k x ps (Ap n) → Kn P w K mg base (k + 1) x ps (Af n)) : ∀ n, Kn P w K mg base (kk + n + 1) x ps (Af n)
  | 0 => step 0 kk (Nat.le_refl _) (by rw [h0]; exact knFalse F g b)
  | n + 1 => step (n + 1) (kk + n + 1) (by omega) (by rw [h1]; exact knRec F g b h0 h1 step n)
theorem knOf (F : Fun K x x st f fd) (g : mg x = some (.ref f)) (b : Binds K fd ps []) (S : FnScope N ps (defScope st)) (len : ∀ ds L Kk, A ds L Kk → ds.length = ps.length) {t : ATS}
    (hbody : ∀ (cdv : Value) (Ar : Around) (outer : List Env) (s : Shared) (H : Hp) (E : XK), Room k (Ar.deeper (envOfC x (defScope st) s.heap.objs.size f cdv)) →
      ASs (cxOf CX0 P w K mg base N x (defScope st) f cdv Ar outer s H E).nox (defBody st) t)
    (rd : ∀ ds L Kk, A ds L Kk → t { nx := fun _ L' => Rt Kk .non L', rt := Rt Kk } (startD N ds) L) : Kn P w K mg base (k + 1) x ps A := by
  refine ⟨f, fd, ?_, g, F.kp, b⟩
  refine F.ok S (fun vs H Q E h => ?_) (fun cdv Ar outer s H vs Q E hr h => ?_)
  · obtain ⟨Z, ds, L, Kk, _, r, a, _⟩ := h
    rw [← r.length]
    exact len _ _ _ a
  · obtain ⟨Z, ds, L, Kk, wd, r, a, q⟩ := h
    have q2 := q.rt
    refine ⟨_, hbody cdv Ar outer s H E hr, Z, startD N ds, L, _, wd, sl_start r, rd _ _ _ a, ?_, q2, ?_, ?_⟩
    · intro Δ' L' σ' H' p' w' s' h'
      exact q2 _ _ _ _ p' w' .non h'
    · intro _ _ _ _ _ _ _ h'
      exact h'.elim
    · intro _ _ _ _ _ _ _ h'
      exact h'.elim
theorem Kn.imp {A' : ASp} (h : Kn P w K mg base k x ps A) (i : ∀ ds L Kk, A' ds L Kk → A ds L Kk) : Kn P w K mg base k x ps A' := by
  obtain ⟨f, fd, F, r⟩ := h
  exact ⟨f, fd, F.imp fun vs H Q E ⟨Z, ds, L, Kk, a, b, c, d⟩ => ⟨Z, ds, L, Kk, a, b, i _ _ _ c, d⟩, r⟩
theorem Kn.mono {j : Nat} (h : Kn P w K mg base k x ps A) (l : k ≤ j) : Kn P w K mg base j x ps A := by
  obtain ⟨f, fd, F, r⟩ := h
  exact ⟨f, fd, F.mono l, r⟩
end
section
variable {X : Cx} {e a b c : Expr} {es : List Expr} {pos p : Pos} {tr : ATA} {k : Nat} {x : Str} {ps : List Str} {A : ASp}
theorem ae_callK (h : Kn X.prog X.w X.K X.mg X.base k x ps A) (hr : Room k X.A) (hg : Gl X x) (ha : AA X (e :: es) tr) (hdb : (x == ("__debug__" : Str)) = false := by decide) (he : starEach (e :: es) X.env = (false, eval e X.env) :: starEach es X.env := by rfl) (hpl : (backTo pos (starEach es X.env)).any (·.1) = false := by rfl) :
    AE X (.Call (.Name x p) (e :: es) [] pos) (aCall A tr) := by
  obtain ⟨f, fd, F, g, kp, b⟩ := h
  exact ae_call F hr hg g kp b ha hdb he hpl
theorem ae_callK0 (h : Kn X.prog X.w X.K X.mg X.base k x ps A) (hr : Room k X.A) (hg : Gl X x) (hdb : (x == ("__debug__" : Str)) = false := by decide) : AE X (.Call (.Name x p) [] [] pos) (aCall A aNil) := by
  obtain ⟨f, fd, F, g, kp, b⟩ := h
  exact ae_call0 F hr hg g kp b hdb
end
end Wv

namespace Wv
open PySem PySem.Spec PyProof.Rows L2

/-! ## loops by an invariant -/
theorem forA_ind {live : Lg → Prop} {g : Tg} {tb : ATS} {A : AEnds} (I : Nat → Sg → Lg → Prop) {its : List D} (hl : ∀ i Δ L, I i Δ L → live L)
    (step : ∀ i d Δ L (N : Sg → Lg → Prop), its[i]? = some d → I i Δ L → (∀ Δ' L', I (i + 1) Δ' L' → N Δ' L') → g.A d Δ L fun Δ' L' => tb { A with nx := N, ct := N, bk := A.nx } Δ' L')
    (fin : ∀ Δ L, I its.length Δ L → A.nx Δ L) {Δ : Sg} {L : Lg} (h0 : I 0 Δ L) : forA live g tb A its Δ L := by
  have key : ∀ (rest pre : List D) (Δ : Sg) (L : Lg), its = pre ++ rest → I pre.length Δ L → forA live g tb A rest Δ L := by
    intro rest
    induction rest with
    | nil =>
      intro pre Δ L e h
      rw [List.append_nil] at e
      subst e
      exact ⟨hl _ _ _ h, fin _ _ h⟩
    | cons d ds ih =>
      intro pre Δ L e h
      refine ⟨hl _ _ _ h, step pre.length d Δ L _ (by rw [e]; simp) h fun Δ' L' h' => ih (pre ++ [d]) Δ' L' (by rw [e]; simp) (by simpa using h')⟩
  exact key its [] Δ L rfl h0
theorem lcA_ind {live : Lg → Prop} {g : Tg} {tt : ATT} {te : AT} {Δ : Sg} {K : List D → Lg → Prop} (I : Nat → List D → Lg → Prop) {its : List D} (hl : ∀ i acc L, I i acc L → live L)
    (step : ∀ i d acc L (R : List D → Lg → Prop), its[i]? = some d → I i acc L → (∀ xs L', I (i + 1) (acc ++ xs) L' → R xs L') →
      g.A d Δ L fun Δ' L' => tt Δ' L' fun b L2 => (b = true → te Δ' L2 fun y L3 => R [y] L3) ∧ (b = false → R [] L2))
    (fin : ∀ acc L, I its.length acc L → K acc L) {L : Lg} (h0 : I 0 [] L) : lcA live g tt te Δ its [] L K := by
  have key : ∀ (rest pre acc : List D) (L : Lg), its = pre ++ rest → I pre.length acc L → lcA live g tt te Δ rest acc L K := by
    intro rest
    induction rest with
    | nil =>
      intro pre acc L e h
      rw [List.append_nil] at e
      subst e
      exact ⟨hl _ _ _ h, fin _ _ h⟩
    | cons d ds ih =>
      intro pre acc L e h
      have h2 := step pre.length d acc L (fun xs L' => lcA live g tt te Δ ds (acc ++ xs) L' K) (by rw [e]; simp) h fun xs L' h' => ih (pre ++ [d]) (acc ++ xs) L' (by rw [e]; simp) (by simpa using h')
      simp only [List.append_nil] at h2
      exact ⟨hl _ _ _ h, h2⟩
  exact key its [] [] L rfl h0
/-- a comprehension that changes nothing -/
theorem lcA_map {α : Type} {live : Lg → Prop} {g : Tg} {tt : ATT} {te : AT} {Δ : Sg} {K : List D → Lg → Prop} (xs : List α) (f : α → D) (F : α → List D) {L : Lg} (hl : live L)
    (step : ∀ a, a ∈ xs → ∀ (R : List D → Lg → Prop), R (F a) L → g.A (f a) Δ L fun Δ' L' => tt Δ' L' fun b L2 => (b = true → te Δ' L2 fun y L3 => R [y] L3) ∧ (b = false → R [] L2))
    (fin : K (xs.flatMap F) L) : lcA live g tt te Δ (xs.map f) [] L K := by
  refine lcA_ind (fun i acc L' => L' = L ∧ acc = (xs.take i).flatMap F) (fun i acc L' h => by rw [h.1]; exact hl) (fun i d acc L' R e h hr => ?_) (fun acc L' h => ?_) ⟨rfl, by simp⟩
  · obtain ⟨rfl, rfl⟩ := h
    rw [List.getElem?_map] at e
    obtain ⟨a, ea, rfl⟩ := Option.map_eq_some_iff.mp e
    refine step a (List.mem_of_getElem? ea) R (hr _ _ ⟨rfl, ?_⟩)
    rw [List.take_succ, ea]
    simp
  · obtain ⟨rfl, rfl⟩ := h
    rw [List.length_map, List.take_length]
    exact fin
/-- a comprehension that keeps J of the ledger -/
theorem lcA_mapL {α : Type} {live : Lg → Prop} {g : Tg} {tt : ATT} {te : AT} {Δ : Sg} {K : List D → Lg → Prop} (J : Lg → Prop) (xs : List α) (f : α → D) (F : α → List D) {L : Lg} (hl : ∀ L', J L' → live L')
    (step : ∀ a, a ∈ xs → ∀ (L' : Lg) (R : List D → Lg → Prop), J L' → (∀ L2, J L2 → R (F a) L2) → g.A (f a) Δ L' fun Δ' L' => tt Δ' L' fun b L2 => (b = true → te Δ' L2 fun y L3 => R [y] L3) ∧ (b = false → R [] L2))
    (fin : ∀ L', J L' → K (xs.flatMap F) L') (h0 : J L) : lcA live g tt te Δ (xs.map f) [] L K := by
  refine lcA_ind (fun i acc L' => J L' ∧ acc = (xs.take i).flatMap F) (fun i acc L' h => hl _ h.1) (fun i d acc L' R e h hr => ?_) (fun acc L' h => ?_) ⟨h0, by simp⟩
  · obtain ⟨j, rfl⟩ := h
    rw [List.getElem?_map] at e
    obtain ⟨a, ea, rfl⟩ := Option.map_eq_some_iff.mp e
    refine step a (List.mem_of_getElem? ea) L' R j fun L2 j2 => hr _ _ ⟨j2, ?_⟩
    rw [List.take_succ, ea]
    simp
  · obtain ⟨j, rfl⟩ := h
    rw [List.length_map, List.take_length]
    exact fin _ j
theorem put_self {L : Lg} {p : Addr} {c : Cell} (h : L p = some c) : put L p c = L := by
  funext b
  unfold put
  split
  · subst b; exact h.symm
  · rfl
/-- a while by a measure -/
theorem whileA_ind {c : ATT} {tb : ATS} {A : AEnds} (I : Nat → Sg → Lg → Prop)
    (step : ∀ k Δ L (N : Sg → Lg → Prop), I k Δ L → (∀ j Δ' L', k = j + 1 → I j Δ' L' → N Δ' L') → c Δ L fun b L1 => (b = true → tb { A with nx := N, ct := N, bk := A.nx } Δ L1) ∧ (b = false → A.nx Δ L1))
    {k : Nat} {Δ : Sg} {L : Lg} (h : I k Δ L) : ∃ n, whileA c tb A n Δ L := by
  refine ⟨k + 1, ?_⟩
  induction k generalizing Δ L with
  | zero => exact step 0 Δ L _ h fun j _ _ e => by omega
  | succ k ih => exact step (k + 1) Δ L _ h fun j Δ' L' e h' => ih (by have : j = k := by omega
                                                                       subst this; exact h')
theorem flatMap_one {α β : Type} (f : α → β) : ∀ xs : List α, xs.flatMap (fun a => [f a]) = xs.map f
  | [] => rfl
  | x :: xs => by rw [List.flatMap_cons, flatMap_one f xs]; rfl
theorem flatMap_if {α β : Type} (p : α → Bool) (f : α → β) : ∀ xs : List α, xs.flatMap (fun a => if p a then [f a] else []) = (xs.filter p).map f
  | [] => rfl
  | x :: xs => by
    rw [List.flatMap_cons, flatMap_if p f xs, List.filter_cons]
    split <;> simp [*]

/-! ## equality of data -/
mutual
theorem eqv_refl : ∀ d : D, PyData.eqv d.py d.py = true
  | .non | .ref _ => rfl
  | .bl b => by show (b == b) = true; simp
  | .int i => by show (i == i) = true; simp
  | .str x => by show (x == x) = true; simp
  | .tup ds => eqvAll_refl ds
  | .lst ds => eqvAll_refl ds
theorem eqvAll_refl : ∀ ds : List D, PyData.eqvAll (D.pys ds) (D.pys ds) = true
  | [] => rfl
  | d :: ds => by show (PyData.eqv d.py d.py && PyData.eqvAll (D.pys ds) (D.pys ds)) = true; rw [eqv_refl d, eqvAll_refl ds]; rfl
end
theorem eqD_refl (d : D) : eqD d d = true := eqv_refl d
theorem eqD_int (a b : Int) : eqD (.int a) (.int b) = decide (a = b) := by
  show (a == b) = _
  by_cases h : a = b
  · simp [h]
  · simp [h]
theorem eqD_str (a b : Str) : eqD (.str a) (.str b) = (a == b) := rfl
theorem eqD_pair (a b c d : Int) : eqD (.tup [.int a, .int b]) (.tup [.int c, .int d]) = decide (a = c ∧ b = d) := by
  show (a == c && (b == d && true)) = _
  by_cases h : a = c <;> by_cases h2 : b = d <;> simp [h, h2]
theorem eqvAll_ints : ∀ as bs : List Int, PyData.eqvAll (D.pys (as.map .int)) (D.pys (bs.map .int)) = decide (as = bs)
  | [], [] => rfl
  | [], _ :: _ => rfl
  | _ :: _, [] => rfl
  | a :: as, b :: bs => by
    show (a == b && PyData.eqvAll (D.pys (as.map .int)) (D.pys (bs.map .int))) = _
    rw [eqvAll_ints as bs]
    by_cases h : a = b <;> by_cases h2 : as = bs <;> simp [h, h2]
theorem eqD_ints (as bs : List Int) : eqD (.lst (as.map .int)) (.lst (bs.map .int)) = decide (as = bs) := eqvAll_ints as bs
theorem eqD_tints (as bs : List Int) : eqD (.tup (as.map .int)) (.tup (bs.map .int)) = decide (as = bs) := eqvAll_ints as bs
theorem eqD_nil (ds : List D) : eqD (.lst ds) (.lst []) = ds.isEmpty := by
  cases ds <;> rfl
theorem okDs_map {α : Type} {n : Nat} (f : α → D) (h : ∀ a, okD n (f a) = true) : ∀ xs : List α, okDs n (xs.map f) = true
  | [] => rfl
  | x :: xs => by show (okD n (f x) && okDs n (xs.map f)) = true; rw [h x, okDs_map f h xs]; rfl
theorem okD_ints (ns : List Int) (n : Nat) : okD (n + 1) (.lst (ns.map .int)) = true := okDs_map _ (fun _ => rfl) ns
theorem okD_tints (ns : List Int) (n : Nat) : okD (n + 1) (.tup (ns.map .int)) = true := okDs_map _ (fun _ => rfl) ns
theorem inD_int (x : Int) : ∀ ns : List Int, inD (.int x) (ns.map .int) = decide (x ∈ ns)
  | [] => by simp [inD]
  | n :: ns => by
    show (eqD (.int n) (.int x) || inD (.int x) (ns.map .int)) = _
    rw [eqD_int, inD_int x ns]
    by_cases h : n = x <;> by_cases h2 : x ∈ ns <;> simp [h, h2, eq_comm]
    intro e; exact h e.symm
/-- pairs of ints -/
def pD (p : Int × Int) : D := .tup [.int p.1, .int p.2]
theorem inD_pair (x : Int × Int) : ∀ ns : List (Int × Int), inD (pD x) (ns.map pD) = decide (x ∈ ns)
  | [] => by simp [inD]
  | n :: ns => by
    show (eqD (pD n) (pD x) || inD (pD x) (ns.map pD)) = _
    rw [inD_pair x ns]
    unfold pD
    rw [eqD_pair]
    by_cases h : n = x
    · subst h; simp
    · have : ¬ (n.1 = x.1 ∧ n.2 = x.2) := fun e => h (Prod.ext e.1 e.2)
      by_cases h2 : x ∈ ns <;> simp [this, h2]
      intro e; exact h e.symm
theorem okD_pairs (ns : List (Int × Int)) (n : Nat) : okD (n + 2) (.lst (ns.map pD)) = true := okDs_map _ (fun _ => rfl) ns

/-! ## dicts -/
theorem dget_mem {kvs : List (NestedKey × D)} {k : NestedKey} {d : D} (h : dget kvs k = some d) : (k, d) ∈ kvs := by
  unfold dget at h
  obtain ⟨x, e, rfl⟩ := Option.map_eq_some_iff.mp h
  have h1 := List.mem_of_find?_eq_some e
  have h2 := List.find?_some e
  have h3 : x.1 = k := by simpa using h2
  rw [← h3]
  exact h1
theorem dget_none {kvs : List (NestedKey × D)} {k : NestedKey} (h : dget kvs k = none) : ∀ d, (k, d) ∉ kvs := by
  intro d hm
  unfold dget at h
  rw [Option.map_eq_none_iff] at h
  have := List.find?_eq_none.mp h _ hm
  simp at this
theorem dget_dput (kvs : List (NestedKey × D)) (k : NestedKey) (d : D) : dget (dput kvs k d) k = some d := by
  unfold dput
  split
  · rename_i h
    unfold dget
    induction kvs with
    | nil => simp [dget] at h
    | cons x xs ih =>
      rw [List.map_cons]
      by_cases e : x.1 = k
      · simp [e]
      · simp only [if_neg e]
        rw [List.find?_cons]
        simp only [e, decide_false]
        refine ih ?_
        simpa [dget, List.find?_cons, e] using h
  · rename_i h
    have h2 : dget kvs k = none := by simpa using h
    unfold dget at h2 ⊢
    rw [Option.map_eq_none_iff] at h2
    rw [List.find?_append, h2]
    simp
theorem dput_mem {kvs : List (NestedKey × D)} {k : NestedKey} {d : D} {x : NestedKey × D} (h : x ∈ dput kvs k d) : x = (k, d) ∨ x ∈ kvs := by
  unfold dput at h
  split at h
  · obtain ⟨y, hy, e⟩ := List.mem_map.mp h
    split at e
    · rename_i hk; left; rw [← e, ← hk]
    · right; rw [← e]; exact hy
  · rcases List.mem_append.mp h with h | h
    · exact .inr h
    · left; simpa using h
theorem dput_keys (kvs : List (NestedKey × D)) (k : NestedKey) (d : D) (h : (kvs.map (·.1)).Nodup) : ((dput kvs k d).map (·.1)).Nodup := by
  unfold dput
  split
  · rw [List.map_map]
    have : ((fun x : NestedKey × D => x.1) ∘ fun x => if x.1 = k then (x.1, d) else x) = fun x => x.1 := by
      funext x
      show (if x.1 = k then (x.1, d) else x).1 = x.1
      split <;> rfl
    rw [this]
    exact h
  · rename_i e
    have e2 : dget kvs k = none := by simpa using e
    rw [List.map_append, List.nodup_append]
    refine ⟨h, by simp, ?_⟩
    intro a ha b hb
    obtain ⟨y, hy, rfl⟩ := List.mem_map.mp ha
    simp at hb
    subst hb
    intro e3
    exact dget_none e2 y.2 (by rw [← e3]; exact hy)
theorem len_flat {α β : Type} {m : Nat} {f : α → List β} : ∀ {l : List α}, (∀ x ∈ l, (f x).length ≤ m) → (l.flatMap f).length ≤ l.length * m
  | [], _ => by simp
  | x :: l, h => by
    rw [List.flatMap_cons, List.length_append, List.length_cons, Nat.succ_mul]
    have h1 := h x (by simp)
    have h2 := len_flat (f := f) (m := m) (l := l) fun y hy => h y (by simp [hy])
    omega

/-! ## sorted -/
theorem strict_ext : ∀ {a b : List Int}, a.Pairwise (· < ·) → b.Pairwise (· < ·) → (∀ x, x ∈ a ↔ x ∈ b) → a = b
  | [], [], _, _, _ => rfl
  | [], y :: b, _, _, h => by have := (h y).mpr (by simp); simp at this
  | x :: a, [], _, _, h => by have := (h x).mp (by simp); simp at this
  | x :: a, y :: b, ha, hb, h => by
    rw [List.pairwise_cons] at ha hb
    have e : x = y := by
      have h1 := (h x).mp (by simp)
      have h2 := (h y).mpr (by simp)
      rw [List.mem_cons] at h1 h2
      rcases h1 with h1 | h1
      · exact h1
      · rcases h2 with h2 | h2
        · exact h2.symm
        · have := ha.1 y h2; have := hb.1 x h1; omega
    subst e
    rw [strict_ext ha.2 hb.2 fun z => ?_]
    constructor
    · intro hz
      have := (h z).mp (by simp [hz])
      rw [List.mem_cons] at this
      rcases this with rfl | k
      · have := ha.1 z hz; omega
      · exact k
    · intro hz
      have := (h z).mpr (by simp [hz])
      rw [List.mem_cons] at this
      rcases this with rfl | k
      · have := hb.1 z hz; omega
      · exact k
theorem strict_of {xs : List Int} (h : xs.Pairwise (· ≤ ·)) (n : xs.Nodup) : xs.Pairwise (· < ·) := by
  have := List.Pairwise.and h n
  exact this.imp fun {a b} h => by have h1 := h.1; have h2 : a ≠ b := h.2; omega
theorem isort_strict {xs : List Int} (n : xs.Nodup) : (isort xs).Pairwise (· < ·) := strict_of (isort_sorted xs) ((isort_perm xs).nodup_iff.mpr n)
theorem isort_eq {xs ys : List Int} (n : xs.Nodup) (h : ys.Pairwise (· < ·)) (e : ∀ x, x ∈ xs ↔ x ∈ ys) : isort xs = ys :=
  strict_ext (isort_strict n) h fun x => (isort_perm xs).mem_iff.trans (e x)
end Wv

namespace Wv
open PySem PySem.Spec PyProof.Rows L2

/-! # woven rows -/
structure Row (r : List Int) : Prop where
  pos : 1 ≤ r.length
  few : r.length ≤ 40
  rng : ∀ x ∈ r, 0 ≤ x ∧ x ≤ 1000000000
  nd : r.Nodup
theorem Row.perm {r s : List Int} (h : Row r) (p : r.Perm s) : Row s := ⟨by rw [← p.length_eq]; exact h.pos, by rw [← p.length_eq]; exact h.few, fun x hx => h.rng x (p.mem_iff.mpr hx), p.nodup_iff.mp h.nd⟩
def goodB : List Int → Int → Int → Bool
  | [], _, _ => true
  | c :: r, u, v => (decide (u < c) && goodB r c v) || (decide (c < v) && goodB r u c)
inductive Shuf : List Int → List Int → List Int → Prop
  | nil : Shuf [] [] []
  | up {r a b : List Int} (c : Int) : Shuf r a b → Shuf (c :: r) (c :: a) b
  | dn {r a b : List Int} (c : Int) : Shuf r a b → Shuf (c :: r) a (c :: b)
theorem Shuf.swap {r a b : List Int} (h : Shuf r a b) : Shuf r b a := by
  induction h with
  | nil => exact .nil
  | up c _ ih => exact .dn c ih
  | dn c _ ih => exact .up c ih
theorem Shuf.snocU {r a b : List Int} (h : Shuf r a b) (c : Int) : Shuf (r ++ [c]) (a ++ [c]) b := by
  induction h with
  | nil => exact .up c .nil
  | up d _ ih => exact .up d ih
  | dn d _ ih => exact .dn d ih
theorem Shuf.snocD {r a b : List Int} (h : Shuf r a b) (c : Int) : Shuf (r ++ [c]) a (b ++ [c]) := by
  induction h with
  | nil => exact .dn c .nil
  | up d _ ih => exact .up d ih
  | dn d _ ih => exact .dn d ih
theorem Shuf.reverse {r a b : List Int} (h : Shuf r a b) : Shuf r.reverse a.reverse b.reverse := by
  induction h with
  | nil => exact .nil
  | up c _ ih => rw [List.reverse_cons, List.reverse_cons]; exact ih.snocU c
  | dn c _ ih => rw [List.reverse_cons, List.reverse_cons]; exact ih.snocD c
theorem Shuf.perm {r a b : List Int} (h : Shuf r a b) : r.Perm (a ++ b) := by
  induction h with
  | nil => exact .refl _
  | up c _ ih => exact .cons c ih
  | dn c _ ih => exact (List.Perm.cons c ih).trans List.perm_middle.symm
theorem good_iff : ∀ (r : List Int) (u v : Int), goodB r u v = true ↔ ∃ a b, Shuf r a b ∧ (u :: a).Pairwise (· < ·) ∧ (v :: b).Pairwise (· > ·)
  | [], u, v => ⟨fun _ => ⟨[], [], .nil, by simp, by simp⟩, fun _ => rfl⟩
  | c :: r, u, v => by
    unfold goodB
    rw [Bool.or_eq_true, Bool.and_eq_true, Bool.and_eq_true, decide_eq_true_iff, decide_eq_true_iff, good_iff r c v, good_iff r u c]
    constructor
    · rintro (⟨h, a, b, s, p, q⟩ | ⟨h, a, b, s, p, q⟩)
      · refine ⟨c :: a, b, .up c s, List.pairwise_cons.mpr ⟨?_, p⟩, q⟩
        intro x hx
        rcases List.mem_cons.mp hx with rfl | hx
        · exact h
        · have := (List.pairwise_cons.mp p).1 x hx; omega
      · refine ⟨a, c :: b, .dn c s, p, List.pairwise_cons.mpr ⟨?_, q⟩⟩
        intro x hx
        rcases List.mem_cons.mp hx with rfl | hx
        · exact h
        · have := (List.pairwise_cons.mp q).1 x hx; omega
    · rintro ⟨a, b, s, p, q⟩
      cases s with
      | up _ s => exact .inl ⟨(List.pairwise_cons.mp p).1 c (by simp), _, _, s, (List.pairwise_cons.mp p).2, q⟩
      | dn _ s => exact .inr ⟨(List.pairwise_cons.mp q).1 c (by simp), _, _, s, p, (List.pairwise_cons.mp q).2⟩
theorem good_top : ∀ (r : List Int) (u v w : Int), (∀ x ∈ r, x < v) → (∀ x ∈ r, x < w) → goodB r u v = goodB r u w
  | [], _, _, _, _, _ => rfl
  | c :: r, u, v, w, h, k => by
    unfold goodB
    rw [good_top r c v w (fun x hx => h x (by simp [hx])) (fun x hx => k x (by simp [hx]))]
    have h1 := h c (by simp)
    have h2 := k c (by simp)
    simp [h1, h2]
/-- the row is woven -/
def wovenB (r : List Int) : Bool := goodB r (-1) 1000000001
theorem woven_iff {r : List Int} (h : ∀ x ∈ r, 0 ≤ x ∧ x ≤ 1000000000) : wovenB r = true ↔ ∃ a b, Shuf r a b ∧ a.Pairwise (· < ·) ∧ b.Pairwise (· > ·) := by
  unfold wovenB
  rw [good_iff]
  constructor
  · rintro ⟨a, b, s, p, q⟩
    exact ⟨a, b, s, (List.pairwise_cons.mp p).2, (List.pairwise_cons.mp q).2⟩
  · rintro ⟨a, b, s, p, q⟩
    refine ⟨a, b, s, List.pairwise_cons.mpr ⟨fun x hx => ?_, p⟩, List.pairwise_cons.mpr ⟨fun x hx => ?_, q⟩⟩
    · have := h x (s.perm.mem_iff.mpr (by simp [hx])); omega
    · have := h x (s.perm.mem_iff.mpr (by simp [hx])); show x < 1000000001; omega
theorem woven_reverse {r : List Int} (h : ∀ x ∈ r, 0 ≤ x ∧ x ≤ 1000000000) : wovenB r.reverse = wovenB r := by
  have key : ∀ {r : List Int}, (∀ x ∈ r, 0 ≤ x ∧ x ≤ 1000000000) → wovenB r = true → wovenB r.reverse = true := by
    intro r h w
    obtain ⟨a, b, s, p, q⟩ := (woven_iff h).mp w
    refine (woven_iff fun x hx => h x (List.mem_reverse.mp hx)).mpr ⟨b.reverse, a.reverse, s.reverse.swap, ?_, ?_⟩
    · rw [List.pairwise_reverse]; exact q
    · rw [List.pairwise_reverse]; exact p
  rw [Bool.eq_iff_iff]
  constructor
  · intro w
    have := key (r := r.reverse) (fun x hx => h x (List.mem_reverse.mp hx)) w
    rwa [List.reverse_reverse] at this
  · exact key h

/-! ## rotations -/
def rot (n : Nat) (r : List Int) : List Int := r.drop n ++ r.take n
theorem rot_perm (n : Nat) (r : List Int) : (rot n r).Perm r := by
  unfold rot
  refine List.perm_append_comm.trans ?_
  rw [List.take_append_drop]
theorem rot_length (n : Nat) (r : List Int) : (rot n r).length = r.length := (rot_perm n r).length_eq
theorem rot_get {n : Nat} {r : List Int} (hn : n < r.length) {i : Nat} (hi : i < r.length) : (rot n r)[i]? = r[(i + n) % r.length]? := by
  unfold rot
  by_cases h : i < r.length - n
  · rw [List.getElem?_append_left (by rw [List.length_drop]; exact h), List.getElem?_drop, Nat.mod_eq_of_lt (by omega), Nat.add_comm]
  · rw [List.getElem?_append_right (by rw [List.length_drop]; omega), List.length_drop, List.getElem?_take_of_lt (by omega)]
    congr 1
    have : i + n = (i - (r.length - n)) + r.length := by omega
    rw [this, Nat.add_mod_right, Nat.mod_eq_of_lt (by omega)]
theorem rot_rot {m n : Nat} {r : List Int} (hm : m < r.length) (hn : n < r.length) : rot m (rot n r) = rot ((m + n) % r.length) r := by
  have hp : 0 < r.length := by omega
  apply List.ext_getElem?
  intro i
  by_cases hi : i < r.length
  · rw [rot_get (by rw [rot_length]; exact hm) (by rw [rot_length]; exact hi), rot_length, rot_get hn (Nat.mod_lt _ hp), rot_get (Nat.mod_lt _ hp) hi]
    congr 1
    rw [Nat.mod_add_mod, Nat.add_mod_mod, Nat.add_assoc]
  · rw [List.getElem?_eq_none (by rw [rot_length, rot_length]; omega), List.getElem?_eq_none (by rw [rot_length]; omega)]
theorem rot_rev {m : Nat} {r : List Int} (hm : m < r.length) : rot m r.reverse = (rot ((r.length - m) % r.length) r).reverse := by
  unfold rot
  rw [List.reverse_append, List.drop_reverse, List.take_reverse]
  by_cases h : m = 0
  · subst h
    simp
  · rw [Nat.mod_eq_of_lt (by omega)]

/-! ## the seams -/
def seamsOf (r : List Int) : List Int := ((List.range r.length).filter fun s => wovenB (rot s r)).map fun s : Nat => (s : Int)
theorem range_pair (n : Nat) : (List.range n).Pairwise (· < ·) := List.pairwise_lt_range
theorem seams_strict (r : List Int) : (seamsOf r).Pairwise (· < ·) := by
  unfold seamsOf
  rw [List.pairwise_map]
  refine ((range_pair r.length).filter _).imp fun {a b} h => ?_
  show (a : Int) < (b : Int)
  omega
theorem mem_seams {r : List Int} {x : Int} : x ∈ seamsOf r ↔ ∃ s : Nat, s < r.length ∧ wovenB (rot s r) = true ∧ (s : Int) = x := by
  unfold seamsOf
  rw [List.mem_map]
  constructor
  · rintro ⟨s, h, rfl⟩
    rw [List.mem_filter, List.mem_range] at h
    exact ⟨s, h.1, h.2, rfl⟩
  · rintro ⟨s, h, h2, rfl⟩
    exact ⟨s, by rw [List.mem_filter, List.mem_range]; exact ⟨h, h2⟩, rfl⟩
theorem sub_mod {a o n : Int} (ha : 0 ≤ a) (ha' : a < n) (ho : 0 ≤ o) (ho' : o < n) : (a - o) % n = if o ≤ a then a - o else a - o + n := by
  split
  · exact Int.emod_eq_of_lt (by omega) (by omega)
  · rw [← Int.add_emod_right]
    exact Int.emod_eq_of_lt (by omega) (by omega)
theorem nodup_map_on {α β : Type} {f : α → β} : ∀ {l : List α}, (∀ a ∈ l, ∀ b ∈ l, f a = f b → a = b) → l.Nodup → (l.map f).Nodup
  | [], _, _ => by simp
  | x :: l, h, n => by
    rw [List.nodup_cons] at n
    rw [List.map_cons, List.nodup_cons]
    refine ⟨fun hm => ?_, nodup_map_on (fun a ha b hb => h a (by simp [ha]) b (by simp [hb])) n.2⟩
    obtain ⟨y, hy, e⟩ := List.mem_map.mp hm
    have := h y (by simp [hy]) x (by simp) e
    subst this
    exact n.1 hy
theorem seams_nodup (r : List Int) : (seamsOf r).Nodup := (seams_strict r).imp fun {a b} h e => by omega
theorem seams_rot {r : List Int} {o : Nat} (ho : o < r.length) : seamsOf (rot o r) = isort ((seamsOf r).map fun s => (s - (o : Int)) % (r.length : Int)) := by
  symm
  refine isort_eq ?_ (seams_strict _) fun x => ?_
  · refine nodup_map_on (fun a ha b hb e => ?_) (seams_nodup r)
    obtain ⟨s, hs, _, rfl⟩ := mem_seams.mp ha
    obtain ⟨t, ht, _, rfl⟩ := mem_seams.mp hb
    rw [sub_mod (by omega) (by omega) (by omega) (by omega), sub_mod (by omega) (by omega) (by omega) (by omega)] at e
    split at e <;> split at e <;> omega
  · rw [List.mem_map, mem_seams]
    constructor
    · rintro ⟨a, ha, rfl⟩
      obtain ⟨s, hs, hw, rfl⟩ := mem_seams.mp ha
      rw [sub_mod (by omega) (by omega) (by omega) (by omega)]
      by_cases h : o ≤ s
      · refine ⟨s - o, by rw [rot_length]; omega, ?_, by split <;> omega⟩
        rw [rot_rot (by omega) ho, Nat.sub_add_cancel h, Nat.mod_eq_of_lt hs]
        exact hw
      · refine ⟨s + r.length - o, by rw [rot_length]; omega, ?_, by split <;> omega⟩
        rw [rot_rot (by omega) ho, Nat.sub_add_cancel (by omega), Nat.add_mod_right, Nat.mod_eq_of_lt hs]
        exact hw
    · rintro ⟨t, ht, hw, rfl⟩
      rw [rot_length] at ht
      rw [rot_rot ht ho] at hw
      refine ⟨(((t + o) % r.length : Nat) : Int), mem_seams.mpr ⟨_, Nat.mod_lt _ (by omega), hw, rfl⟩, ?_⟩
      by_cases h : t + o < r.length
      · rw [Nat.mod_eq_of_lt h, sub_mod (by omega) (by omega) (by omega) (by omega)]
        split <;> omega
      · have e : (t + o) % r.length = t + o - r.length := by rw [Nat.mod_eq_sub_mod (by omega), Nat.mod_eq_of_lt (by omega)]
        rw [e, sub_mod (by omega) (by omega) (by omega) (by omega)]
        split <;> omega
theorem neg_mod {s n : Int} (h : 0 ≤ s) (h2 : s < n) : (n - s) % n = if s = 0 then 0 else n - s := by
  split
  · subst s; simp
  · exact Int.emod_eq_of_lt (by omega) (by omega)
theorem nneg_mod {s n : Nat} (h2 : s < n) : (n - s) % n = if s = 0 then 0 else n - s := by
  split
  · subst s; simp
  · exact Nat.mod_eq_of_lt (by omega)
theorem seams_rev {r : List Int} (h : ∀ x ∈ r, 0 ≤ x ∧ x ≤ 1000000000) : seamsOf r.reverse = isort ((seamsOf r).map fun s => ((r.length : Int) - s) % (r.length : Int)) := by
  have hw : ∀ t, t < r.length → wovenB (rot t r.reverse) = wovenB (rot ((r.length - t) % r.length) r) := by
    intro t ht
    rw [rot_rev ht, woven_reverse fun x hx => h x ((rot_perm _ r).mem_iff.mp hx)]
  symm
  refine isort_eq ?_ (seams_strict _) fun x => ?_
  · refine nodup_map_on (fun a ha b hb e => ?_) (seams_nodup r)
    obtain ⟨s, hs, _, rfl⟩ := mem_seams.mp ha
    obtain ⟨t, ht, _, rfl⟩ := mem_seams.mp hb
    rw [neg_mod (by omega) (by omega), neg_mod (by omega) (by omega)] at e
    split at e <;> split at e <;> omega
  · rw [List.mem_map, mem_seams]
    constructor
    · rintro ⟨a, ha, rfl⟩
      obtain ⟨s, hs, w, rfl⟩ := mem_seams.mp ha
      refine ⟨(r.length - s) % r.length, by rw [List.length_reverse]; exact Nat.mod_lt _ (by omega), ?_, ?_⟩
      · rw [hw _ (Nat.mod_lt _ (by omega))]
        have e : (r.length - (r.length - s) % r.length) % r.length = s := by
          rw [nneg_mod (Nat.mod_lt _ (by omega)), nneg_mod hs]
          split <;> split at * <;> omega
        rw [e]
        exact w
      · rw [nneg_mod hs, neg_mod (by omega) (by omega)]
        split <;> split <;> omega
    · rintro ⟨t, ht, w, rfl⟩
      rw [List.length_reverse] at ht
      rw [hw t ht] at w
      refine ⟨(((r.length - t) % r.length : Nat) : Int), mem_seams.mpr ⟨_, Nat.mod_lt _ (by omega), w, rfl⟩, ?_⟩
      rw [nneg_mod ht]
      split
      · simp [*]
      · rw [neg_mod (by omega) (by omega)]
        split <;> omega

/-! ## the law's own count of the fits -/
def fitAdd (c : Int) (p : Int × Int) (m : List (Int × Int)) : List (Int × Int) :=
  let m1 := if p.1 < c ∧ (c, p.2) ∉ m then m ++ [(c, p.2)] else m
  if c < p.2 ∧ (p.1, c) ∉ m1 then m1 ++ [(p.1, c)] else m1
theorem mem_addIf {x y : Int × Int} {P : Prop} [Decidable P] {m : List (Int × Int)} : x ∈ (if P ∧ y ∉ m then m ++ [y] else m) ↔ x ∈ m ∨ (P ∧ x = y) := by
  split
  · rename_i h
    rw [List.mem_append, List.mem_singleton]
    exact ⟨fun k => k.imp id fun e => ⟨h.1, e⟩, fun k => k.imp id fun e => e.2⟩
  · rename_i h
    refine ⟨.inl, fun k => k.elim id ?_⟩
    rintro ⟨p, rfl⟩
    by_cases e : x ∈ m
    · exact e
    · exact (h ⟨p, e⟩).elim
theorem nd_addIf {y : Int × Int} {P : Prop} [Decidable P] {m : List (Int × Int)} (h : m.Nodup) : (if P ∧ y ∉ m then m ++ [y] else m).Nodup := by
  split
  · rename_i k
    rw [List.nodup_append]
    refine ⟨h, by simp, fun a ha b hb e => ?_⟩
    rw [List.mem_singleton] at hb
    subst hb; subst e
    exact k.2 ha
  · exact h
theorem mem_fitAdd {c : Int} {p x : Int × Int} {m : List (Int × Int)} : x ∈ fitAdd c p m ↔ x ∈ m ∨ (p.1 < c ∧ x = (c, p.2)) ∨ (c < p.2 ∧ x = (p.1, c)) := by
  unfold fitAdd
  simp only []
  rw [mem_addIf, mem_addIf, or_assoc]
theorem nd_fitAdd {c : Int} {p : Int × Int} {m : List (Int × Int)} (h : m.Nodup) : (fitAdd c p m).Nodup := nd_addIf (nd_addIf h)
/-- what is held before the cards r are laid fits -/
def AnyGood (r : List Int) (m : List (Int × Int)) : Prop := ∃ p ∈ m, goodB r p.1 p.2 = true
def FitFrom (c : Int) (l m : List (Int × Int)) : Prop := ∀ x, x ∈ m ↔ ∃ p ∈ l, (p.1 < c ∧ x = (c, p.2)) ∨ (c < p.2 ∧ x = (p.1, c))
theorem fitFrom_snoc {c : Int} {l m : List (Int × Int)} {p : Int × Int} (h : FitFrom c l m) : FitFrom c (l ++ [p]) (fitAdd c p m) := fun x => by
  rw [mem_fitAdd, h x]
  constructor
  · rintro (⟨q, hq, e⟩ | e)
    · exact ⟨q, by simp [hq], e⟩
    · exact ⟨p, by simp, e⟩
  · rintro ⟨q, hq, e⟩
    rcases List.mem_append.mp hq with hq | hq
    · exact .inl ⟨q, hq, e⟩
    · rw [List.mem_singleton] at hq
      subst hq
      exact .inr e
theorem anyGood_step {c : Int} {r : List Int} {l m : List (Int × Int)} (h : FitFrom c l m) : AnyGood r m ↔ AnyGood (c :: r) l := by
  constructor
  · rintro ⟨x, hx, g⟩
    obtain ⟨p, hp, ⟨k, rfl⟩ | ⟨k, rfl⟩⟩ := (h x).mp hx
    · exact ⟨p, hp, by simp only [goodB]; simp [k, g]⟩
    · exact ⟨p, hp, by simp only [goodB]; simp [k, g]⟩
  · rintro ⟨p, hp, g⟩
    simp only [goodB, Bool.or_eq_true, Bool.and_eq_true, decide_eq_true_iff] at g
    rcases g with ⟨k, g⟩ | ⟨k, g⟩
    · exact ⟨(c, p.2), (h _).mpr ⟨p, hp, .inl ⟨k, rfl⟩⟩, g⟩
    · exact ⟨(p.1, c), (h _).mpr ⟨p, hp, .inr ⟨k, rfl⟩⟩, g⟩
theorem anyGood_nil {m : List (Int × Int)} : AnyGood [] m ↔ m ≠ [] := by
  cases m with
  | nil => exact ⟨fun ⟨_, h, _⟩ => by simp at h, fun h => (h rfl).elim⟩
  | cons p m => exact ⟨fun _ => by simp, fun _ => ⟨p, by simp, rfl⟩⟩
/-- where the lasts come from -/
def LastsIn (S T : List Int) (m : List (Int × Int)) : Prop := ∀ p ∈ m, p.1 ∈ S ∧ p.2 ∈ T
theorem lastsIn_len {S T : List Int} {m : List (Int × Int)} (h : LastsIn S T m) (n : m.Nodup) : m.length ≤ S.length * T.length := by
  have := List.Nodup.length_le_of_subset (l₂ := S.flatMap fun u => T.map fun v => (u, v)) n (fun p hp => by
    rw [List.mem_flatMap]
    exact ⟨p.1, (h p hp).1, List.mem_map.mpr ⟨p.2, (h p hp).2, rfl⟩⟩)
  exact Nat.le_trans this (len_flat fun x _ => by rw [List.length_map]; exact Nat.le_refl _)
theorem lastsIn_add {S T : List Int} {c : Int} {p : Int × Int} {m : List (Int × Int)} (h : LastsIn S T m) (hp : p.1 ∈ S ∧ p.2 ∈ T) (hS : c ∈ S) (hT : c ∈ T) : LastsIn S T (fitAdd c p m) := fun x hx => by
  rcases mem_fitAdd.mp hx with hx | ⟨_, rfl⟩ | ⟨_, rfl⟩
  · exact h x hx
  · exact ⟨hS, hp.2⟩
  · exact ⟨hp.1, hT⟩

/-! ## the law's moves of one card -/
inductive Bent : Nat → List Int → List Int → Prop
  | zero (r : List Int) : Bent 0 r r
  | move {n : Nat} {r s : List Int} {i j : Nat} {c : Int} : Bent n r s → s[i]? = some c → j ≤ s.length - 1 → Bent (n + 1) r ((s.eraseIdx i).take j ++ [c] ++ (s.eraseIdx i).drop j)
theorem erase_perm {c : Int} : ∀ {s : List Int} {i : Nat}, s[i]? = some c → s.Perm (c :: s.eraseIdx i)
  | [], i, h => by simp at h
  | x :: s, 0, h => by
    simp at h
    subst h
    exact .refl _
  | x :: s, i + 1, h => by
    have h2 : s[i]? = some c := by simpa using h
    rw [List.eraseIdx_cons_succ]
    exact (List.Perm.cons x (erase_perm h2)).trans (.swap _ _ _)
theorem Bent.perm {n : Nat} {r s : List Int} (h : Bent n r s) : r.Perm s := by
  induction h with
  | zero => exact .refl _
  | move _ e _ ih =>
    refine ih.trans ((erase_perm e).trans ?_)
    rw [List.append_assoc, List.singleton_append]
    refine List.Perm.trans ?_ List.perm_middle.symm
    rw [List.take_append_drop]

/-! ## small facts of the readings -/
theorem ix30 : ixN 3 0 = some 0 := rfl
theorem ix32 : ixN 3 2 = some 2 := rfl
theorem at30 {α : Type} (x y z : α) : atI [x, y, z] 0 = some x := rfl
theorem at31 {α : Type} (x y z : α) : atI [x, y, z] 1 = some y := rfl
theorem at32 {α : Type} (x y z : α) : atI [x, y, z] 2 = some z := rfl
theorem isiD_ii : isiD "int" "int" = true := by decide
theorem isiD_bi : isiD "bool" "int" = false := by decide
theorem isiD_bb : isiD "bool" "bool" = true := by decide
theorem isiD_tt : isiD "tuple" "tuple" = true := by decide
theorem isiD_ll : isiD "list" "list" = true := by decide
theorem isiD_il : isiD "int" "list" = false := by decide
theorem isiD_bl2 : isiD "bool" "list" = false := by decide
theorem isiD_it : isiD "int" "tuple" = false := by decide
theorem isiD_bt : isiD "bool" "tuple" = false := by decide
theorem isiD_st : isiD "str" "tuple" = false := by decide
theorem isiD_sl : isiD "str" "list" = false := by decide
theorem isiD_lt : isiD "list" "tuple" = false := by decide
theorem isiD_si : isiD "str" "int" = false := by decide
theorem isiD_li : isiD "list" "int" = false := by decide
theorem okD_i (n : Nat) (i : Int) : okD n (.int i) = true := by cases n <;> rfl
theorem cut_one (ds : List D) : cut ds (some 1) none = ds.drop 1 := by
  unfold cut
  have e : HT.sIx ds.length 0 (some 1) = min 1 ds.length := by show HT.sIx ds.length 0 (some ((1 : Nat) : Int)) = _; exact HT.sIx_nat _ _ _
  rw [e]
  show List.take (ds.length - min 1 ds.length) (ds.drop (min 1 ds.length)) = _
  cases ds with
  | nil => rfl
  | cons d ds =>
    rw [List.length_cons, Nat.min_eq_left (by omega)]
    apply List.take_of_length_le
    simp
theorem zipD_maps {α β : Type} (f : α → D) (g : β → D) : ∀ (as : List α) (bs : List β), zipD (as.map f) (bs.map g) = (List.zip as bs).map fun p => D.tup [f p.1, g p.2]
  | [], _ => by simp [zipD]
  | _ :: _, [] => by simp [zipD]
  | a :: as, b :: bs => by
    rw [List.map_cons, List.map_cons, List.zip_cons_cons, List.map_cons, ← zipD_maps f g as bs]
    rfl
theorem all_zip : ∀ {ns : List Int}, ns.Pairwise (· < ·) → ((List.zip ns (ns.drop 1)).map fun p => decide (p.1 < p.2)).all id = true
  | [], _ => rfl
  | [_], _ => rfl
  | a :: b :: ns, h => by
    rw [List.pairwise_cons] at h
    have ih := all_zip h.2
    have e := h.1 b (by simp)
    simp only [List.drop_succ_cons, List.drop_zero, List.zip_cons_cons, List.map_cons, List.all_cons, id_eq] at ih ⊢
    rw [Bool.and_eq_true]
    exact ⟨by simpa using e, ih⟩

theorem cut_from {α : Type} (ds : List α) (n : Nat) (h : n ≤ ds.length) : cut ds (some (n : Int)) none = ds.drop n := by
  unfold cut
  rw [HT.sIx_nat, HT.sIx_none, Nat.min_eq_left h]
  apply List.take_of_length_le
  simp
theorem cut_to {α : Type} (ds : List α) (n : Nat) (h : n ≤ ds.length) : cut ds none (some (n : Int)) = ds.take n := by
  unfold cut
  rw [HT.sIx_nat, HT.sIx_none, Nat.min_eq_left h, Nat.sub_zero, List.drop_zero]
theorem rgD_len (lo : Int) (n : Nat) : (rgD lo n).length = n := by unfold rgD; rw [List.length_map, List.length_range]

/-! ## the law's own helpers -/
def Deck (n : Int) (C : Cell) : Prop := ∃ a b c : Int, C = .lst [.int a, .int b, .int c] ∧ 0 ≤ b ∧ b < 2147483579 ∧ 0 ≤ c ∧ c ≤ n
theorem Deck.mono {m n : Int} {C : Cell} (h : Deck m C) (l : m ≤ n) : Deck n C := by
  obtain ⟨a, b, c, e, h1, h2, h3, h4⟩ := h
  exact ⟨a, b, c, e, h1, h2, h3, by omega⟩
theorem add_mod {x a m : Int} (hx : 0 ≤ x) (hx2 : x < m) (ha : 0 ≤ a) (ha2 : a < m) : (x + a) % m = if x + a < m then x + a else x + a - m := by
  split
  · exact Int.emod_eq_of_lt (by omega) (by omega)
  · rw [← Int.sub_emod_right]
    exact Int.emod_eq_of_lt (by omega) (by omega)
/-- some number near x is free -/
theorem free_num {ns : List Int} {m x : Int} (hl : (ns.length : Int) < m) (hx : 0 ≤ x) (hx2 : x < m) : ∃ j : Nat, j ≤ ns.length ∧ (x + j) % m ∉ ns := by
  apply Classical.byContradiction
  intro hn
  have hall : ∀ j : Nat, j ≤ ns.length → (x + j) % m ∈ ns := fun j hj => Classical.byContradiction fun h => hn ⟨j, hj, h⟩
  have h1 := List.Nodup.length_le_of_subset (l₁ := (List.range (ns.length + 1)).map fun j : Nat => (x + (j : Int)) % m) (l₂ := ns) (by
    refine nodup_map_on (fun a ha b hb e => ?_) List.nodup_range
    rw [List.mem_range] at ha hb
    rw [add_mod hx hx2 (by omega) (by omega), add_mod hx hx2 (by omega) (by omega)] at e
    split at e <;> split at e <;> omega) (fun y hy => by
    obtain ⟨j, hj, rfl⟩ := List.mem_map.mp hy
    rw [List.mem_range] at hj
    exact hall j (by omega))
  rw [List.length_map, List.length_range] at h1
  omega
def sortOf (ty : String) : Int := if ty == "bool" then 1 else if ty == "int" then 2 else if ty == "str" then 3 else if ty == "list" then 4 else if ty == "tuple" then 5 else 6
mutual
/-- data without objects that change, of depth n -/
def okS : Nat → D → Bool
  | _, .non | _, .bl _ | _, .int _ => true
  | _, .str x => PyData.strOk x
  | _, .ref _ => false
  | 0, .tup _ | 0, .lst _ => false
  | n + 1, .tup ds | n + 1, .lst ds => decide (ds.length ≤ 1000000) && okSs n ds
def okSs : Nat → List D → Bool
  | _, [] => true
  | n, d :: ds => okS n d && okSs n ds
end
theorem okSs_get {n : Nat} : ∀ {ds : List D} {i : Nat} {d : D}, okSs n ds = true → ds[i]? = some d → okS n d = true
  | [], _, _, _, e => by simp at e
  | x :: ds, 0, d, h, e => by
    simp only [okSs, Bool.and_eq_true] at h
    simp at e
    subst e
    exact h.1
  | x :: ds, i + 1, d, h, e => by
    simp only [okSs, Bool.and_eq_true] at h
    exact okSs_get h.2 (by simpa using e)
theorem okSs_map {α : Type} {n : Nat} (f : α → D) (h : ∀ a, okS n (f a) = true) : ∀ xs : List α, okSs n (xs.map f) = true
  | [] => rfl
  | x :: xs => by show (okS n (f x) && okSs n (xs.map f)) = true; rw [h x, okSs_map f h xs]; rfl
theorem okS_ints (ns : List Int) (n : Nat) (h : ns.length ≤ 1000000) : okS (n + 1) (.lst (ns.map .int)) = true := by
  show (decide ((ns.map D.int).length ≤ 1000000) && okSs n (ns.map .int)) = true
  rw [okSs_map _ (fun _ => by cases n <;> rfl), List.length_map]
  simpa using h
theorem ty_see {L : Lg} {x d : D} (h : see L x = d) (hn : ∀ p, d ≠ .ref p) : tyD L x = tyD L d := by
  subst h
  cases x with
  | ref p =>
    simp only [see] at hn ⊢
    cases e : L p with
    | none => rfl
    | some c =>
      cases c with
      | lst ds => simp only [tyD, e]
      | dct _ => rfl
      | ins _ _ => rfl
      | tab _ => rfl
  | _ => rfl
theorem okS_ref {n : Nat} {d : D} (h : okS n d = true) : ∀ p, d ≠ .ref p := by
  rintro p rfl
  cases n <;> simp [okS] at h
theorem see_nref {L : Lg} {d : D} (h : ∀ p, d ≠ .ref p) : see L d = d := by
  cases d with
  | ref p => exact (h p rfl).elim
  | _ => rfl
theorem atI_nat {α : Type} {xs : List α} {i : Nat} {x : α} (h : xs[i]? = some x) : atI xs (i : Int) = some x := by
  have hi : i < xs.length := by
    apply Classical.byContradiction
    intro hn
    rw [List.getElem?_eq_none (by omega)] at h
    cases h
  unfold atI ixN
  rw [if_pos (by omega), if_pos (by omega), Option.bind_some, Int.toNat_natCast, h]

theorem erase_map {α β : Type} (f : α → β) : ∀ (xs : List α) (i : Nat), (xs.map f).eraseIdx i = (xs.eraseIdx i).map f
  | [], _ => rfl
  | _ :: _, 0 => rfl
  | x :: xs, i + 1 => by simp only [List.map_cons, List.eraseIdx_cons_succ, erase_map f xs i]

theorem rot_cut {r : List Int} {n : Nat} (h : n ≤ r.length) : cut (r.map D.int) (some (n : Int)) none ++ cut (r.map D.int) none (some (n : Int)) = (rot n r).map D.int := by
  rw [cut_from _ _ (by rw [List.length_map]; exact h), cut_to _ _ (by rw [List.length_map]; exact h), ← List.map_drop, ← List.map_take, ← List.map_append]
  rfl
theorem cut_map {α β : Type} (f : α → β) (xs : List α) (lo hi : Option Int) : cut (xs.map f) lo hi = (cut xs lo hi).map f := by
  unfold cut
  rw [List.length_map, List.map_take, List.map_drop]
theorem fits_woven {r : List Int} (h : ∀ x ∈ r, 0 ≤ x ∧ x ≤ 1000000000) : goodB r (-1) 10000000000 = wovenB r :=
  good_top r _ _ _ (fun x hx => by have := h x hx; omega) (fun x hx => by have := h x hx; omega)
theorem Row.rot {r : List Int} (h : Row r) (n : Nat) : Row (Wv.rot n r) := h.perm (rot_perm n r).symm
theorem Row.rev {r : List Int} (h : Row r) : Row r.reverse := h.perm (List.reverse_perm r).symm
theorem seams_len (r : List Int) : (seamsOf r).length ≤ r.length := by
  unfold seamsOf
  rw [List.length_map]
  refine Nat.le_trans (List.length_filter_le _ _) ?_
  rw [List.length_range]
  exact Nat.le_refl _
theorem range_row {n : Nat} (h : 1 ≤ n) (h2 : n ≤ 40) : Row ((List.range n).map fun i => (0 : Int) + (i : Nat)) := by
  refine ⟨by rw [List.length_map, List.length_range]; exact h, by rw [List.length_map, List.length_range]; exact h2, fun x hx => ?_, nodup_map_on (fun a _ b _ e => by omega) List.nodup_range⟩
  obtain ⟨i, hi, rfl⟩ := List.mem_map.mp hx
  rw [List.mem_range] at hi
  omega
end Wv

namespace Wv
open PySem PySem.Spec PyProof.Rows L2
section
variable {X : Cx} {e a b c d : Expr} {es : List Expr} {pos : Pos} {ta tb tc td : AT} {tr : ATA} {M : Mo}
/-! ## a chain of three comparisons of ints -/
def tChain3 (r1 r2 r3 : R2) (ta tb tc td : TE) : TE := fun σ H Q => ta σ H fun x H1 => tb σ H1 fun y H2 => r1 x y H2 fun z H3 => ∃ k, z = .bl k ∧
  (if k = true then tc σ H3 fun u H4 => r2 y u H4 fun z2 H5 => ∃ k2, z2 = .bl k2 ∧ (if k2 = true then td σ H5 fun v H6 => r3 u v H6 Q else Q (.bl false) H5) else Q (.bl false) H3)
theorem pe_chain3 {op1 op2 op3 : CmpOp} {r1 r2 r3 : R2} {t1 t2 t3 t4 : TE} (h1 : OpR X (compareOp op1) r1) (h2 : OpR X (compareOp op2) r2) (h3 : OpR X (compareOp op3) r3) (ha : PE X a t1) (hb : PE X b t2) (hc : PE X c t3) (hd : PE X d t4)
    (hm : lastMarks [op1, op2, op3] [b, c, d] = false := by with_unfolding_all rfl) : PE X (.Compare a [op1, op2, op3] [b, c, d] pos) (tChain3 r1 r2 r3 t1 t2 t3 t4) := ⟨fun pins s σ H Q I h =>
  Compare_chain (thn (ha.run pins s σ H _ I h) fun _ s1 ⟨_, H1, I1, rx, q1⟩ => chain_link (thn (hb.run pins s1 σ H1 _ I1 q1) fun _ s2 ⟨_, H2, I2, ry, q2⟩ =>
    thn (h1 pins s2 σ H2 _ _ _ _ _ I2 rx ry q2) fun dd s3 ⟨z, H3, I3, rz, k, ek, q3⟩ => by
      cases ek
      cases rz
      refine wpAny_truthy_bool ?_
      cases k with
      | false => exact ite_ff ⟨.bl false, H3, I3, rfl, q3⟩
      | true =>
        exact ite_tt (chain_link (thn (hc.run pins s3 σ H3 _ I3 q3) fun _ s4 ⟨_, H4, I4, ru, q4⟩ => thn (h2 pins s4 σ H4 _ _ _ _ _ I4 ry ru q4) fun dd2 s5 ⟨z2, H5, I5, rz2, k2, ek2, q5⟩ => by
          cases ek2
          cases rz2
          refine wpAny_truthy_bool ?_
          cases k2 with
          | false => exact ite_ff ⟨.bl false, H5, I5, rfl, q5⟩
          | true => exact ite_tt (chain_last (thn (hd.run pins s5 σ H5 _ I5 q5) fun _ s6 ⟨_, H6, I6, rv, q6⟩ => h3 pins s6 σ H6 _ _ _ _ Q I6 ru rv q6)))))) hm⟩
/-- four names of ints: i < j < k < l -/
def aCh3 (i j k l : Nat) : AT := fun Δ L K => ∃ a b c d : Int, Δ[i]? = some (some (.int a)) ∧ Δ[j]? = some (some (.int b)) ∧ Δ[k]? = some (some (.int c)) ∧ Δ[l]? = some (some (.int d)) ∧ K (.bl (decide (a < b) && (decide (b < c) && decide (c < d)))) L
theorem ae_ch3 {i j k l : Nat} (ha : PE X a (tVar i)) (hb : PE X b (tVar j)) (hc : PE X c (tVar k)) (hd : PE X d (tVar l))
    (hm : lastMarks [CmpOp.Lt, .Lt, .Lt] [b, c, d] = false := by with_unfolding_all rfl) : AE X (.Compare a [.Lt, .Lt, .Lt] [b, c, d] pos) (aCh3 i j k l) := peW (pe_chain3 op_lt op_lt op_lt ha hb hc hd hm) fun σ H Q => by
  rintro ⟨Z, Δ, L, K, w, s, ⟨p, q, u, v, e1, e2, e3, e4, t⟩, g⟩
  obtain ⟨x1, f1, r1⟩ := s.2 _ _ e1
  obtain ⟨x2, f2, r2⟩ := s.2 _ _ e2
  obtain ⟨x3, f3, r3⟩ := s.2 _ _ e3
  obtain ⟨x4, f4, r4⟩ := s.2 _ _ e4
  cases r1; cases r2; cases r3; cases r4
  have fin : ∀ bb : Bool, (decide (p < q) && (decide (q < u) && decide (u < v))) = bb → Q (.bl bb) H := fun bb e => g _ _ _ _ (Pers.refl L H) w (.bl bb) (by rw [← e]; exact t)
  refine ⟨.int p, f1, .int q, f2, p, q, rfl, rfl, decide (p < q), rfl, ?_⟩
  cases h1 : decide (p < q) with
  | false => exact iteF (fin false (by rw [h1]; rfl))
  | true =>
    refine iteT ⟨.int u, f3, q, u, rfl, rfl, decide (q < u), rfl, ?_⟩
    cases h2 : decide (q < u) with
    | false => exact iteF (fin false (by rw [h1, h2]; rfl))
    | true =>
      refine iteT ⟨.int v, f4, u, v, rfl, rfl, fin _ (by rw [h1, h2]; rfl)⟩

/-! ## x is not True -/
def oIsB (neg : Bool) : AR2 := fun x y L K => match x, y with
  | .bl a, .bl b => K (.bl (xor neg (a == b))) L
  | _, _ => False
theorem ro_notB : RO M rNotB (oIsB true) := by
  intro Z x y v w L H K Q W rx ry t q
  unfold oIsB at t
  split at t
  · rename_i a b
    cases rx; cases ry
    refine ⟨a, b, rfl, rfl, q _ _ _ _ (Pers.refl L H) W (.bl _) ?_⟩
    have e : (!decide (a = b)) = (true ^^ (a == b)) := by cases a <;> cases b <;> rfl
    rw [e]
    exact t
  · exact t.elim
theorem ae_isNotB (ha : AE X a ta) (hb : AE X b tb) : AE X (.Compare a [.IsNot] [b] pos) (aOp (oIsB true) ta tb) := ae_cmp op_notBl ro_notB ha hb (nomark _)
theorem at_isNotB (ha : AE X a ta) (hb : AE X b tb) : ATE X (.Compare a [.IsNot] [b] pos) (aB (aOp (oIsB true) ta tb)) := at_cmp op_notBl ro_notB ha hb (nomark _)

/-! ## a, b, .. = a list or tuple -/
def aAsgU (t : AT) (is : List Nat) : ATS := fun A Δ L => t Δ L fun d L1 => match items L1 d with
  | some ds => ds.length = is.length ∧ A.nx (setAll Δ is ds) L1
  | none => False
def gEi (K : PySem.W.Frag) (n : Nat) (t : TGs) : TG := fun v σ H Q => gTup K n t v σ H Q ∨ gLst K n t v σ H Q
theorem pg_ei {e : Expr} {K : PySem.W.Frag} {n : Nat} {t : TGs} (h1 : PG X e (gTup K n t)) (h2 : PG X e (gLst K n t)) : PG X e (gEi K n t) := ⟨fun pins s σ H v u Q I r hw => hw.elim (h1.run pins s σ H v u Q I r) (h2.run pins s σ H v u Q I r)⟩
theorem as_asgU {tg : Expr} {is : List Nat} (he : AE X e ta) (hg : PG X tg (gEi X.K is.length (gNames is))) (hs : swapsWithSole [tg] e pos.line X.env = pure false := by rfl) (hw : swappedStores [tg] e X.env = pure none := by rfl)
    (h1 : (assignEach [tg] X.env).map (·.2) = [assign tg X.env] := by rfl) : AS X (.Assign [tg] e pos) (aAsgU ta is) := psW (ps_asg he hg hs hw h1) fun E σ H => by
  rintro ⟨Z, Δ, L, A, w, s, t, q⟩
  refine ⟨Z, Δ, L, _, w, s, t, fun d L1 v H1 p1 w1 r1 t1 => ?_⟩
  split at t1
  · rename_i ds e
    obtain ⟨x, b, xs, rfl, h, rs⟩ := items_sq (M := X.mo.z Z) w1 r1 e
    have hn : xs.length = is.length := by rw [← rs.length]; exact t1.1
    have hq := q.1 _ _ _ _ p1 w1 ((s.mono p1).setAll rs) t1.2
    cases b with
    | true => exact .inr ⟨x, xs, rfl, h, hn, gNames_run hn hq⟩
    | false => exact .inl ⟨x, xs, rfl, h, hn, gNames_run hn hq⟩
  · exact t1.elim

/-! ## a, b, c = x, y, z -/
def aPar3 (i j l : Nat) (tr : ATA) : ATS := fun A Δ L => tr Δ L fun ds L1 => match ds with
  | [d, e, f] => A.nx (((Δ.set i (some d)).set j (some e)).set l (some f)) L1
  | _ => False
theorem reps3 {L : Lg} {H : Hp} {d e f : D} {vs : List V} (r : Reps M L H [d, e, f] vs) : ∃ u v w, vs = [u, v, w] ∧ Rep M L H d u ∧ Rep M L H e v ∧ Rep M L H f w := by
  cases r with
  | cons r1 r =>
    obtain ⟨v, w, rfl, r2, r3⟩ := reps2 r
    exact ⟨_, _, _, rfl, r1, r2, r3⟩
theorem as_par3 {i j l : Nat} {x y z : Str} {px py pz pt : Pos} {kt k2 pt2} (hc : X.calm = true) (hN : X.N.Nodup) (hi : X.N[i]? = some x) (hj : X.N[j]? = some y) (hl : X.N[l]? = some z) (hij : i ≠ j) (hil : i ≠ l) (hjl : j ≠ l)
    (hx : X.env.scope.names.lookup x = some .local) (hy : X.env.scope.names.lookup y = some .local) (hz : X.env.scope.names.lookup z = some .local) (ha : AA X [a, b, c] tr)
    (hw : swappedStores [.Tuple [.Name x px, .Name y py, .Name z pz] kt pt] (.Tuple [a, b, c] k2 pt2) X.env = pure (some [x, y, z]))
    (hs : swapsWithSole [.Tuple [.Name x px, .Name y py, .Name z pz] kt pt] (.Tuple [a, b, c] k2 pt2) pos.line X.env = pure false := by rfl) :
    AS X (.Assign [.Tuple [.Name x px, .Name y py, .Name z pz] kt pt] (.Tuple [a, b, c] k2 pt2) pos) (aPar3 i j l tr) := psW (ps_par3 hc hN hi hj hl hij hil hjl hx hy hz ha hw hs) fun E σ H => by
  rintro ⟨Z, Δ, L, A, w, s, t, q⟩
  refine ⟨Z, Δ, L, _, w, s, t, fun ds L1 vs H1 p1 w1 r1 t1 => ?_⟩
  split at t1
  · obtain ⟨u, v, w', rfl, r2, r3, r4⟩ := reps3 r1
    exact ⟨u, v, w', rfl, q.1 _ _ _ _ p1 w1 ((((s.mono p1).set r2 i).set r3 j).set r4 l) t1⟩
  · exact t1.elim

/-! ## l.index(x) of ints -/
def mIndex : AM := fun x ds L K => match see L x, ds with
  | .lst ys, [.int i] => match asInts ys with
    | some ns => i ∈ ns ∧ K (.int (ns.idxOf i : Nat)) L
    | none => False
  | _, _ => False
theorem eqV_int (i j : Int) : eqV (.int i) (.int j) = decide (i = j) := by
  show (i == j) = _
  by_cases h : i = j <;> simp [h]
theorem mo_index : MO M (rIndex M.K) mIndex := by
  intro Z x v ds vs L H K Q W rx rs t q
  unfold mIndex at t
  split at t
  · rename_i ys i e
    split at t
    · rename_i ns e2
      rw [asInts_eq e2] at e
      obtain ⟨a, xs, rfl, h, rr⟩ := rep_lst (M := M.z Z) W rx e
      rw [rr.ints] at h
      obtain ⟨u, rfl, ru⟩ := reps1 rs
      cases ru
      have hlt : ns.idxOf i < ns.length := List.idxOf_lt_length_of_mem t.1
      have hget : ns[ns.idxOf i]? = some i := by
        rw [List.getElem?_eq_getElem hlt, List.getElem_idxOf]
      refine ⟨a, ns.map V.int, .int i, ns.idxOf i, .int i, rfl, rfl, h, rfl, ?_, ?_, ?_, fun m z' hm hz => ?_, q _ _ _ _ (Pers.refl L H) W (.int _) t.2⟩
      · rw [List.all_map, List.all_eq_true]
        intro z _
        rfl
      · rw [List.getElem?_map, hget]; rfl
      · rw [eqV_int]; simp
      · rw [List.getElem?_map] at hz
        obtain ⟨z, hz2, rfl⟩ := Option.map_eq_some_iff.mp hz
        rw [eqV_int, decide_eq_false_iff_not]
        rintro rfl
        have hmlt : m < ns.length := by omega
        have h2 : ns[m] = z := by rw [List.getElem?_eq_getElem hmlt] at hz2; exact Option.some.inj hz2
        have : ns.idxOf z ≤ m := by
          apply Classical.byContradiction
          intro hn
          have := List.not_of_lt_findIdx (p := (· == z)) (xs := ns) (i := m) (by simpa [List.idxOf] using Nat.lt_of_not_le hn)
          simp [h2] at this
        omega
    · exact t.elim
  · exact t.elim
theorem ae_index {o : Expr} {to : AT} {apos : Pos} (ho : AE X o to) (ha : AA X (e :: es) tr)
    (hbase : attributeBase o "index" X.env (eval o X.env) = eval o X.env := by rfl)
    (hfew : ((backTo pos (starEach (e :: es) X.env)).all (fun x => !x.1) && (backToKw pos (keywordEach [] X.env)).all (fun x => x.1.isSome)
      && decide ((e :: es).length + ([] : List Keyword).length + (if ([] : List Keyword).isEmpty then 0 else 1) < 30)) = true := by rfl)
    (hline : (apos.endLine == pos.line) = true := by rfl) (hs : starEach (e :: es) X.env = (false, eval e X.env) :: starEach es X.env := by rfl) (hplain : (backTo pos (starEach es X.env)).any (·.1) = false := by rfl) :
    AE X (.Call (.Attribute o "index" apos) (e :: es) [] pos) (aBM mIndex to tr) := ae_bm PySem.F.slot_list_index PySem.F.type_list_index mt_index mo_index ho ha hbase hfew hline hs hplain

/-! ## a table of texts, read at once -/
def tabGet (kvs : List (Str × Str)) (x : Str) : Option Str := (kvs.find? fun kv => decide (kv.1 = x)).map (·.2)
def aTabS (kvs : List (Str × Str)) (ti : AT) : AT := fun Δ L K => ti Δ L fun d L1 => match d with
  | .str x => match tabGet kvs x with
    | some y => K (.str y) L1
    | none => False
  | _ => False
def tabTrs : List (Str × Str) → List (TE × TE)
  | [] => []
  | (k, v) :: r => (tC (.str k), tC (.str v)) :: tabTrs r
theorem tabTrs_run {σ : L2.St} {H : Hp} : ∀ {kvs : List (Str × Str)} {Q : List (V × V) → Hp → Prop}, Q (kvs.map fun x => (V.str x.1, V.str x.2)) H → tPairs (tabTrs kvs) σ H Q
  | [], _, q => q
  | (k, v) :: r, _, q => tabTrs_run (kvs := r) q
theorem valV_tab (kvs : List (Str × Str)) (x : Str) : valV (kvs.map fun y => ((Sum.inr y.1 : Key), V.str y.2)) (Sum.inr x) = (tabGet kvs x).map V.str := by
  induction kvs with
  | nil => rfl
  | cons y r ih =>
    rw [List.map_cons]
    by_cases e : y.1 = x
    · rw [valV_pos (p := ((Sum.inr y.1 : Key), V.str y.2)) (by rw [e])]; simp [tabGet, List.find?_cons, e]
    · have e2 : ¬ (Sum.inr y.1 : Key) = Sum.inr x := fun h => e (Sum.inr.inj h)
      simp only [valV, tabGet, List.find?_cons, e, e2, decide_false] at ih ⊢
      exact ih
theorem ae_tabS {keys : List (Option Expr)} {vals : List Expr} {kvs : List (Str × Str)} {dpos : Pos} {ti : AT} {i : Expr} (hu : X.A.units + 64 < cLine) (hp : PPs X dpos keys vals (tabTrs kvs)) (hi : AE X i ti)
    (hm : mergeK [] (kvs.map fun y => ((Sum.inr y.1 : Key), V.str y.2)) = kvs.map fun y => ((Sum.inr y.1 : Key), V.str y.2)) (hl : kvs.length ≤ 15) (hs : NoSl i)
    (hall : keys.all (·.isSome) = true) (hle : keys.length = vals.length) (h0 : keys ≠ []) (h15 : keys.length ≤ 15) : AE X (.Subscript (.Dict keys vals dpos) i pos) (aTabS kvs ti) := by
  refine peW (pe_dget (by omega) (pe_disp hp hall hle h0 h15) hi hs) fun σ H Q => ?_
  rintro ⟨Z, Δ, L, K, w, s, t, q⟩
  intro p hpn
  refine tabTrs_run ⟨upd_same, kvs.map fun y => ((Sum.inr y.1 : Key), V.str y.2), by rw [List.map_map]; rfl, by rw [List.length_map]; exact hl, ?_⟩
  rw [hm]
  have hLp : L p = none := by
    cases e : L p with
    | none => rfl
    | some c =>
      obtain ⟨o, ho⟩ := (w.cell p c e).at_
      rw [hpn] at ho
      cases ho
  have P1 : Pers L H L (upd (upd H p (.dK [])) p (.dK (kvs.map fun y => ((Sum.inr y.1 : Key), V.str y.2)))) := fun a l u e => ⟨l, by rw [upd_ne (ne_of_none e hpn), upd_ne (ne_of_none e hpn)]; exact e⟩
  have w1 : Wd (X.mo.z Z) L (upd (upd H p (.dK [])) p (.dK (kvs.map fun y => ((Sum.inr y.1 : Key), V.str y.2)))) := w.ext fun b u e => by rw [upd_ne (ne_of_none e hpn), upd_ne (ne_of_none e hpn)]; exact e
  refine ⟨Z, Δ, L, _, w1, s.mono P1, t, fun d L1 v H1 p1 w2 r1 t1 => ?_⟩
  split at t1
  · rename_i x
    split at t1
    · rename_i y ey
      cases r1
      have hp1 := (p1 p hLp _ upd_same).2
      refine ⟨p, .str y, rfl, .inl ⟨_, Sum.inr x, .inl hp1, rfl, ?_⟩, q _ _ _ _ (P1.trans p1) w2 (.str y) t1⟩
      rw [valV_tab, ey]
      rfl
    · exact t1.elim
  · exact t1.elim
end
end Wv

namespace Wv
open PySem PySem.Spec PyProof.Rows L2

/-! ## the set of a list of texts -/
def ddS (σ : List Str) (k : Str) : List Str := if k ∈ σ then σ else σ ++ [k]
def distS (xs : List Str) : List Str := xs.foldl ddS []
theorem distS_len_from : ∀ (xs σ : List Str), (xs.foldl ddS σ).length ≤ σ.length + xs.length
  | [], _ => Nat.le_refl _
  | x :: xs, σ => by
    refine Nat.le_trans (distS_len_from xs (ddS σ x)) ?_
    have : (ddS σ x).length ≤ σ.length + 1 := by
      unfold ddS
      split
      · omega
      · rw [List.length_append]; exact Nat.le_refl _
    rw [List.length_cons]
    omega
theorem ddS_mem (σ : List Str) (v k : Str) : decide (k ∈ ddS σ v) = (decide (k ∈ σ) || decide (k = v)) := by
  unfold ddS
  split
  · rename_i h
    by_cases e : k = v
    · subst e; simp [h]
    · simp [e]
  · simp
section
variable {prog : Program} {w : World} {A : Around} {R : Result → Shared → Prop} {I : Addr} {fp wr : List Addr} {G : Array GenState → Array GenState → Prop} {n : Nat} {P : Nat → Value → Prop} {St : Nat → Shared → Prop}
/-- what update's loop puts in, text after text -/
theorem texts_loop (W : WalksS prog w A.in1 I fp wr G n P St) (S : Addr) (hSf : S ∉ fp) (xs : List Str) (hsz : xs.length = n) (hn1 : n + 1 < scanBound)
    (hval : ∀ i v, P i v → ∃ t, v = .str (xs.getD i Str.empty) t) :
    ∀ (k i : Nat) (s : Shared), n - i = k → i ≤ n → St i s →
      s.heap.SetOf (PySem.strKind prog w) S (fun k' => decide (k' ∈ distS (xs.take i))) (distS (xs.take i)).length →
      (∀ s', Moved (S :: wr) G s s' → s'.heap.SetOf (PySem.strKind prog w) S (fun k' => decide (k' ∈ distS (xs.take n))) (distS (xs.take n)).length → R (.ok (.ret .none)) s') →
      codeAny (model prog w) A (.builtin "set.update.loop" ⟨[.ref S, .ref I], []⟩) R s := by
  have hSw : S ∉ wr := fun h => hSf (W.sub _ h)
  have more : ∀ b ∈ wr, b ∈ S :: wr := fun b hb => List.mem_cons_of_mem _ hb
  have stays : ∀ {s s' : Shared} {T : Str → Bool} {m : Nat}, Moved wr G s s' → s.heap.SetOf (PySem.strKind prog w) S T m → s'.heap.SetOf (PySem.strKind prog w) S T m := by
    intro s s' T m hm hS
    obtain ⟨o, es, ep, tb, ho, rest⟩ := hS
    exact ⟨o, es, ep, tb, hm.heap S _ hSw ho, rest⟩
  intro k
  induction k with
  | zero =>
    intro i s hk hi hst hS hR
    obtain rfl : i = n := by omega
    refine codeAny_builtin PyProof.Rows.F.entry_set_update_loop ?_
    rw [Around.under_plainId PyProof.Rows.F.plain_set_update_loop _]
    refine wpAny_bind (m := pyNext (.ref I)) (W.done s _ _ hst fun s' hm => ?_)
    exact wpAny_pure (hR s' (hm.mono more) (stays hm hS))
  | succ k ih =>
    intro i s hk hi hst hS hR
    have hlt : i < n := by omega
    refine codeAny_builtin PyProof.Rows.F.entry_set_update_loop ?_
    rw [Around.under_plainId PyProof.Rows.F.plain_set_update_loop _]
    refine wpAny_bind (m := pyNext (.ref I)) (W.item i s _ _ hlt hst fun v s' hP hst' hm => ?_)
    obtain ⟨t, rfl⟩ := hval i v hP
    have hS' := stays hm hS
    have hx : xs[i]? = some (xs.getD i Str.empty) := by
      rw [List.getD_eq_getElem?_getD, List.getElem?_eq_getElem (by omega)]; rfl
    have hstep : distS (xs.take (i + 1)) = ddS (distS (xs.take i)) (xs.getD i Str.empty) := by
      unfold distS
      rw [List.take_add_one, hx]
      simp
    have hb : (distS (xs.take i)).length ≤ i := by
      have := distS_len_from (xs.take i) []
      rw [List.length_take] at this
      simp only [List.length_nil, Nat.zero_add] at this
      exact Nat.le_trans this (Nat.min_le_left _ _)
    show wpAny _ A.in1 (holding [Value.str (xs.getD i Str.empty) t] (setAdd S (.str (xs.getD i Str.empty) t)) >>= _) _ _ s'
    refine wpAny_bind (wpAny_holding ?_)
    unfold setAdd
    refine wpAny_holding (wpAny_bind ((PySem.strKind prog w).pyHash (k := xs.getD i Str.empty) (strKind_is _ _ _ _) ?_))
    refine wpAny_setAddHashed_of (knd := PySem.strKind prog w) (s := { s' with toks := s'.toks + 1 }) (strKind_is _ _ _ _) rfl hS' (by omega) fun h' hsb hS2 => ?_
    have hS3 : h'.SetOf (PySem.strKind prog w) S (fun k' => decide (k' ∈ distS (xs.take (i + 1)))) (distS (xs.take (i + 1))).length := by
      rw [hstep]
      refine SetOf_congr hS2 (fun k' => (ddS_mem _ _ _).symm) ?_
      unfold ddS
      by_cases e : xs.getD i Str.empty ∈ distS (xs.take i)
      · rw [if_pos (decide_eq_true e), if_pos e]
      · rw [if_neg (fun z => e (of_decide_eq_true z)), if_neg e, List.length_append]; rfl
    refine wpAny_pure ⟨plainId_quiet PyProof.Rows.F.plain_set_update_loop _, ih (i + 1) _ (by omega) hlt (W.frame _ s' _ _ hst' (Nat.le_succ _) fun b hbf o e => ?_) hS3 fun s'' hm'' hS'' => ?_⟩
    · rw [hsb.2 b (fun h : b = S => hSf (by rw [← h]; exact hbf))]; exact e
    · refine hR s'' (Moved.trans W.gtrans ((hm.mono more).then_heap (Nat.le_succ _) fun b o hb e => ?_) hm'') hS''
      rw [hsb.2 b (fun h : b = S => hb (by rw [h]; exact List.mem_cons_self))]; exact e
end

section
variable {prog : Program} {w : World} {A : Around} {E : Value → Shared → Prop} {s : Shared}
/-- set(l) of a list of texts -/
theorem set_texts {l : Addr} {its : Array Value} {xs : List Str} {Q : Value → Shared → Prop} (hh : A.handled = none) (hl : s.heap.IsList l its) (hi : StrsAre its.toList xs) (hb : xs.length + 1 < scanBound)
    (h : ∀ (h' : Heap) (tk : Nat), h'.SetOf (PySem.strKind prog w) s.heap.objs.size (fun k' => decide (k' ∈ distS xs)) (distS xs).length →
      (∀ b o, b < s.heap.objs.size → s.heap.get? b = some o → h'.get? b = some o) → Q (.ref s.heap.objs.size) { s with heap := h', toks := tk }) :
    wpAny (model prog w) A (call (.type "set") [.ref l]) Q E s := by
  have hsz : xs.length = its.size := by rw [← StrsAre.len_eq hi, Array.length_toList]
  obtain ⟨c, tl, hmro⟩ := PySem.F.called_set.mro
  have hmade := PySem.F.called_set.made
  have hsub := PySem.F.called_set.sub
  refine wpAny_call (codeAny_of_tree ?_)
  show wpAny _ _ (callAny (.type "set") _) _ _ _
  refine wpAny_pure ⟨Code.quiet_builtin _ (by decide +kernel), codeAny_builtin PySem.F.entry_type_call ?_⟩
  rw [Around.under_plain (weight_type_call_type "set" [.ref l] []) rfl]
  have h1 := PySem.F.called_set.notType
  have h2 := PySem.F.called_set.canCreate
  have hct := PySem.F.typeCall_set_1 (.ref l)
  repeat (any_goals (first | assumption | wp_step))
  refine codeAny_mono (code_set_new_1 (.ref l) (E := E) (Q₁ := fun obj s₁ => ∃ led : Bool, obj = .ref s.heap.objs.size ∧ s₁ = { s with heap := s.heap.push { cls := .type "set", dict := none, data := .set #[] 0 (.fresh 0 0 led) } }) fun led => ⟨led, rfl, rfl⟩) fun r s₁ hr => ?_
  match r, hr with
  | .error e, hr => exact hr
  | .ok (.ret obj), hr =>
    obtain ⟨led, rfl, rfl⟩ := hr
    have hS : (s.heap.push { cls := .type "set", dict := none, data := .set #[] 0 (.fresh 0 0 led) }).get? s.heap.objs.size = some { cls := .type "set", dict := none, data := .set #[] 0 (.fresh 0 0 led) } := Heap.get?_push_size _ rfl
    have hT : Shared.TypeIs { s with heap := s.heap.push { cls := .type "set", dict := none, data := .set #[] 0 (.fresh 0 0 led) } } (.ref s.heap.objs.size) "set" := ⟨_, hS, rfl⟩
    have hli := PySem.F.called_set.init.lookup
    have hbi := PySem.F.called_set.init.bind (.ref s.heap.objs.size)
    repeat (any_goals (first | assumption | wp_step))
    refine codeAny_mono (codeAny_call_builtin (R := wants (fun r s₂ => r = .none ∧ ∃ h' tk, s₂ = { s with heap := h', toks := tk } ∧
        h'.SetOf (PySem.strKind prog w) s.heap.objs.size (fun k' => decide (k' ∈ distS xs)) (distS xs).length ∧
        (∀ b o, b < s.heap.objs.size → s.heap.get? b = some o → h'.get? b = some o)) E) PySem.F.called_set.init.plain PySem.F.entry_set_init (check_set_init_1 hT ?_)) fun r₂ s₂ hr₂ => ?_
    · obtain ⟨⟨ocls, odict, odata, oslots⟩, hol, hcl, nl, hdl⟩ := hl
      simp only at hcl hdl
      subst hcl; subst hdl
      have hol' : (s.heap.push { cls := .type "set", dict := none, data := .set #[] 0 (.fresh 0 0 led) }).get? l = some { cls := .type "list", dict := odict, data := .seq its nl, slots := oslots } := Heap.get?_push_of_some _ hol
      have hsls := PySem.F.sub_list_set
      have hslf := PySem.F.sub_list_frozenset
      have hne : (Value.type "list" == Value.type "dict") = false := by decide
      have hl1 : (s.heap.push { cls := .type "set", dict := none, data := .set #[] 0 (.fresh 0 0 led) }).IsList l its := ⟨_, hol', rfl, nl, rfl⟩
      unfold Builtin.«set.__init__» noKeywords Builtin.Frozenset.updateFrom
      generalize hPI : pyIter = PI
      wp_walk
      subst hPI
      refine wpAny_pyIter_list hl1 ?_
      refine wpAny_bind (wpAny_runValue ?_)
      have hlS : l < s.heap.objs.size := Heap.lt_size hol
      have hh3 : A.in1.in1.in1.handled = none := by simp [hh]
      have hsize : (s.heap.push { cls := .type "set", dict := none, data := .set #[] 0 (.fresh 0 0 led) }).objs.size = s.heap.objs.size + 1 := Heap.size_push _ _
      have hneI : l ≠ (s.heap.push { cls := .type "set", dict := none, data := .set #[] 0 (.fresh 0 0 led) }).objs.size := by rw [Heap.size_push]; exact Nat.ne_of_lt (Nat.lt_succ_of_lt hlS)
      have hSf : s.heap.objs.size ∉ [(s.heap.push { cls := .type "set", dict := none, data := .set #[] 0 (.fresh 0 0 led) }).objs.size, l] := by
        simp only [List.mem_cons, List.not_mem_nil, or_false, not_or]
        exact ⟨by rw [Heap.size_push]; exact Nat.ne_of_lt (Nat.lt_succ_self _), Nat.ne_of_gt hlS⟩
      have hval : ∀ (i : Nat) (v : Value), its[i]? = some v → ∃ t, v = .str (xs.getD i Str.empty) t := fun i v hv => SS.strs_at hi i v (by rw [Array.getElem?_toList]; exact hv)
      have e0 : distS (xs.take its.size) = distS xs := by rw [← hsz, List.take_length]
      refine texts_loop ((Walks.list hh3 _ l hneI its).toS) s.heap.objs.size hSf xs hsz (by omega) hval (its.size - 0) 0 _ (by omega) (Nat.zero_le _) ⟨⟨_, Heap.get?_push_size _ rfl, rfl, rfl⟩, (hl1.push _)⟩ ?_ ?_
      · have hget : ((s.heap.push { cls := .type "set", dict := none, data := .set #[] 0 (.fresh 0 0 led) }).push { cls := .type "list_iterator", data := .fields #[.ref l, .int 0 0] }).get? s.heap.objs.size = some { cls := .type "set", dict := none, data := .set #[] 0 (.fresh 0 0 led) } := Heap.get?_push_of_some _ hS
        exact PyProof.Rows.SetOf_congr ((PyProof.Rows.setObjOf_fresh (knd := PySem.strKind prog w) led).setOf hget (by unfold scanBound; omega)) (fun _ => rfl) rfl
      · intro s' hm hS'
        rw [e0] at hS'
        obtain ⟨h', g', d', tk', os'⟩ := s'
        have eg : g' = s.gens := hm.gens
        have ed : d' = s.drawn := hm.drawn
        have eo : os' = s.os := hm.os
        subst eg; subst ed; subst eo
        refine wpAny_pure (show wpAny _ _ (ret Value.none) _ _ _ from wpAny_pure ⟨rfl, h', tk', rfl, hS', fun b o hb e => ?_⟩)
        exact hm.heap b o (by simp only [List.mem_cons, List.not_mem_nil, or_false, not_or]; exact ⟨Nat.ne_of_lt hb, by rw [Heap.size_push]; exact Nat.ne_of_lt (Nat.lt_succ_of_lt hb)⟩) (Heap.get?_push_of_some _ (Heap.get?_push_of_some _ e))
    · match r₂, hr₂ with
      | .error e, hr₂ => exact hr₂
      | .ok (.ret r), hr₂ =>
        obtain ⟨rfl, h', tk, rfl, hS', hk'⟩ := hr₂
        repeat (any_goals (first | assumption | wp_step))
        exact h _ _ hS' hk'
end
end Wv

namespace Wv
open PySem PySem.Spec PyProof.Rows L2
/-! ## len(set(l)), l a list of texts -/
def asStrs : List D → Option (List Str)
  | [] => some []
  | .str b :: ds => (asStrs ds).map (b :: ·)
  | _ => none
theorem asStrs_eq : ∀ {ds : List D} {bs : List Str}, asStrs ds = some bs → ds = bs.map D.str
  | [], bs, h => by cases h; rfl
  | .str b :: ds, bs, h => by
    simp only [asStrs] at h
    obtain ⟨cs, e, rfl⟩ := Option.map_eq_some_iff.mp h
    rw [asStrs_eq e]; rfl
  | .non :: _, _, h | .bl _ :: _, _, h | .int _ :: _, _, h | .tup _ :: _, _, h | .lst _ :: _, _, h | .ref _ :: _, _, h => by simp [asStrs] at h
theorem asStrs_map {α : Type} (f : α → Str) : ∀ xs : List α, asStrs (xs.map fun x => D.str (f x)) = some (xs.map f)
  | [] => rfl
  | x :: xs => by
    rw [List.map_cons, asStrs, asStrs_map f xs]
    rfl
section
variable {X : Cx} {e a : Expr} {pos : Pos} {ta : AT} {te : TE}
def tLenTexts (K : PySem.W.Frag) (ta : TE) : TE := fun σ H Q => ta σ H fun x H1 => ∃ (l : Addr) (xs : List Str), x = .ref l ∧ SqL K H1 l (xs.map V.str) ∧ xs.length ≤ 4000 ∧ Q (.int ((distS xs).length : Nat)) H1
theorem pe_lenTexts {p p2 q : Pos} (hc : X.calm = true) (hg : Gl X "len") (hm : X.mg "len" = none) (hg2 : Gl X "set") (hm2 : X.mg "set" = none) (ha : PE X a te)
    (na : starEach [a] X.env = (false, eval a X.env) :: starEach [] X.env := by rfl) : PE X (.Call (.Name "len" p) [.Call (.Name "set" p2) [a] [] q] [] pos) (tLenTexts X.K te) := by
  refine ⟨fun pins s σ H Q I h => ?_⟩
  refine Call_ (ld_blt I hg hm boot_len (PyProof.Rows.callWith_builtin1 (PyProof.Rows.args_cons ?_ rfl) rfl rfl))
  refine Call_ (ld_blt I hg2 hm2 boot_set (PyProof.Rows.callWith_type1 (PyProof.Rows.args_cons (thn (ha.run pins s σ H _ I h) fun v s1 ⟨x, H1, I1, r1, q1⟩ => PyProof.Rows.args_nil ?_) na) na rfl))
  obtain ⟨l, xs, rfl, hq, hl, q1⟩ := q1
  cases r1
  obtain ⟨its, r, pl, hz⟩ := I1.list hq
  refine set_texts (I1.ok.hd hc) pl.isList (by simpa using strsAre_of r) (by unfold scanBound; omega) fun h' tk hS hk => PyProof.Rows.args_nil ?_
  obtain ⟨o, es, ep, t, ho, hex, hd, _, _, _, hf, hn⟩ := hS
  have I2 : Inv X pins σ H1 { s1 with heap := h', toks := tk } := I1.kept fun b o e => hk b o (Heap.lt_size e) e
  have hle := distS_len_from xs []
  exact call_len_set ho hex hd hf (by
    rw [hn]
    have : (distS xs).length ≤ xs.length := by simpa [distS] using hle
    omega) ⟨.int ((distS xs).length : Nat), H1, I2.tok _, ⟨_, by rw [hn]⟩, q1⟩
def aLenSetS (t : AT) : AT := fun Δ L K => t Δ L fun d L1 => match see L1 d with
  | .lst ys => match asStrs ys with
    | some xs => xs.length ≤ 4000 ∧ K (.int ((distS xs).length : Nat)) L1
    | none => False
  | _ => False
theorem ae_lenSetS {p p2 q : Pos} (hg : Gl X "len") (hm : X.mg "len" = none) (hg2 : Gl X "set") (hm2 : X.mg "set" = none) (ha : AE X a ta) (hc : X.calm = true := by rfl)
    (na : starEach [a] X.env = (false, eval a X.env) :: starEach [] X.env := by rfl) : AE X (.Call (.Name "len" p) [.Call (.Name "set" p2) [a] [] q] [] pos) (aLenSetS ta) := peW (pe_lenTexts hc hg hm hg2 hm2 ha na) fun σ H Q => by
  rintro ⟨Z, Δ, L, K, w, s, t, g⟩
  refine ⟨Z, Δ, L, _, w, s, t, fun x L1 v1 H1 p1 w1 r1 t1 => ?_⟩
  split at t1
  · rename_i ys e
    split at t1
    · rename_i xs e2
      rw [asStrs_eq e2] at e
      obtain ⟨b, zs, rfl, h, rs⟩ := rep_lst (M := X.mo.z Z) w1 r1 e
      rw [rs.strs] at h
      exact ⟨b, xs, rfl, h, t1.1, g _ _ _ _ p1 w1 (.int _) t1.2⟩
    · exact t1.elim
  · exact t1.elim
end
/-- one text only -/
theorem distS_one {xs : List Str} : (distS xs).length = 1 ↔ ∃ x r, xs = x :: r ∧ ∀ y ∈ r, y = x := by
  have key : ∀ (r : List Str) (x : Str), (r.foldl ddS [x]).length = 1 ↔ ∀ y ∈ r, y = x := by
    intro r
    induction r with
    | nil => intro x; simp
    | cons y r ih =>
      intro x
      rw [List.foldl_cons]
      by_cases e : y = x
      · subst e
        have : ddS [y] y = [y] := by simp [ddS]
        rw [this, ih y]
        simp
      · have h1 : ddS [x] y = [x, y] := by simp [ddS, e]
        rw [h1]
        constructor
        · intro h
          have mono : ∀ (r σ : List Str), σ.length ≤ (r.foldl ddS σ).length := by
            intro r
            induction r with
            | nil => intro σ; exact Nat.le_refl _
            | cons z r ih2 =>
              intro σ
              refine Nat.le_trans ?_ (ih2 _)
              unfold ddS
              split
              · exact Nat.le_refl _
              · rw [List.length_append]; omega
          have := mono r [x, y]
          rw [h] at this
          simp at this
        · intro h
          exact (e (h y (by simp))).elim
  cases xs with
  | nil => simp [distS]
  | cons x r =>
    have e : distS (x :: r) = r.foldl ddS [x] := by simp [distS, ddS]
    rw [e, key]
    constructor
    · intro h; exact ⟨x, r, rfl, h⟩
    · rintro ⟨y, r', e2, h⟩
      cases e2
      exact h
end Wv

namespace Wv
open PySem PySem.Spec PyProof.Rows L2

/-! ## min of a list of tuples of ints -/
def rowP (q : List Int) : PyData := .tuple (q.map .int)
def minL (q : List Int) (qs : List (List Int)) : List Int := qs.foldl (fun a y => if PySem.W.listLt y a = true then y else a) q
theorem minL_eq (q : List Int) (qs : List (List Int)) : (PySem.W.minOf (PySem.W.Tup.mk q) (qs.map PySem.W.Tup.mk)).items = minL q qs := by
  unfold PySem.W.minOf minL
  induction qs generalizing q with
  | nil => rfl
  | cons y qs ih =>
    rw [List.map_cons, List.foldl_cons, List.foldl_cons]
    have e : (if PySem.W.DatumOrd.lt (PySem.W.Tup.mk y) (PySem.W.Tup.mk q) = true then PySem.W.Tup.mk y else PySem.W.Tup.mk q) = PySem.W.Tup.mk (if PySem.W.listLt y q = true then y else q) := by
      show (if PySem.W.listLt y q = true then PySem.W.Tup.mk y else PySem.W.Tup.mk q) = _
      split <;> rfl
    rw [e]
    exact ih _
theorem minL_mem (q : List Int) : ∀ qs : List (List Int), minL q qs ∈ q :: qs := by
  intro qs
  unfold minL
  induction qs generalizing q with
  | nil => simp
  | cons y qs ih =>
    rw [List.foldl_cons]
    have := ih (if PySem.W.listLt y q = true then y else q)
    rw [List.mem_cons] at this ⊢
    rcases this with h | h
    · rw [h]
      split
      · exact .inr (by simp)
      · exact .inl rfl
    · exact .inr (by simp [h])

theorem readsAll_ints {h : Heap} : ∀ {vs : List Value} {a b : List Int} {as bs : List Addr}, ReadsAll h vs (a.map .int) as → ReadsAll h vs (b.map .int) bs → a = b
  | [], [], [], _, _, _, _ => rfl
  | [], [], _ :: _, _, _, _, h2 => by rw [List.map_cons] at h2; cases h2
  | [], _ :: _, _, _, _, h1, _ => by rw [List.map_cons] at h1; cases h1
  | _ :: _, [], _, _, _, h1, _ => by rw [List.map_nil] at h1; cases h1
  | _ :: _, _ :: _, [], _, _, _, h2 => by rw [List.map_nil] at h2; cases h2
  | v :: vs, x :: a, y :: b, _, _, h1, h2 => by
    rw [List.map_cons] at h1 h2
    cases h1 with
    | cons r1 t1 =>
      cases h2 with
      | cons r2 t2 =>
        cases r1
        cases r2
        rw [readsAll_ints t1 t2]
theorem reads_row {h : Heap} {v : Value} {a b : List Int} {as bs : List Addr} (h1 : Reads h v (rowP a) as) (h2 : Reads h v (rowP b) bs) : a = b := by
  unfold rowP at h1 h2
  cases h1 with
  | tuple o1 c1 d1 r1 =>
    cases h2 with
    | tuple o2 c2 d2 r2 =>
      rw [o1] at o2
      cases o2
      rw [d1] at d2
      cases d2
      exact readsAll_ints r1 r2
def rMinT (K : PySem.W.Frag) : List V → Hp → VK → Prop := fun vs H Q => ∃ (a : Addr) (xs : List V) (q : List Int) (qs : List (List Int)), vs = [V.ref a] ∧ SqL K H a xs ∧ DpAll K H xs ((q :: qs).map rowP) ∧
  ∀ (i : Nat) (v : V), xs[i]? = some v → (q :: qs)[i]? = some (minL q qs) → Q v H
section
variable {X : Cx} {e : Expr} {pos : Pos} {ta : AT} {M : Mo}
theorem cr_minT (hc : X.calm = true) (hu : X.A.units + 64 < cLine) : CallR X (.builtin "min") (rMinT X.K) := by
  intro pins s σ H vs us Q I r h
  obtain ⟨a, xs, q, qs, rfl, hs, hd, k⟩ := h
  obtain ⟨its, rv, hl, _⟩ := I.list hs
  rw [Vals.ref1 r]
  obtain ⟨as, ra⟩ := Dp.readsAll I _ xs its hd rv
  have hH : PySem.W.HoldAll s.heap its.toArray.toList (PySem.W.Tup.mk q :: qs.map PySem.W.Tup.mk) := ⟨as, by
    have e1 : (PySem.W.Tup.mk q :: qs.map PySem.W.Tup.mk).map PySem.W.Datum.toD = (q :: qs).map rowP := by
      rw [← List.map_cons, List.map_map]
      rfl
    rw [e1]
    exact ra⟩
  have hdep : PySem.W.Datum.depth (PySem.W.Tup Int) = 1 := rfl
  refine PySem.W.min_list_datum (I.ok.hd hc) hl.isList hH (by omega) fun i v h' tk hi hv hk => ?_
  have hi2 : its[i]? = some v := by simpa using hi
  have hlen := rv.length
  have hilt : i < its.length := (List.getElem?_eq_some_iff.mp hi2).1
  obtain ⟨x, hx⟩ : ∃ x, xs[i]? = some x := ⟨_, List.getElem?_eq_getElem (by omega)⟩
  obtain ⟨u, hu2, ru⟩ := rv.get hx
  rw [hi2] at hu2
  cases hu2
  obtain ⟨bs, rr, hlt, _, _⟩ := PySem.W.readsAll_at ra i v hi2
  obtain ⟨cs, rm⟩ := hv
  have hq : ∃ z, (q :: qs)[i]? = some z := ⟨_, List.getElem?_eq_getElem (by rw [List.length_map] at hlt; exact hlt)⟩
  obtain ⟨z, hz⟩ := hq
  have e2 : ((q :: qs).map rowP).getD i .none = rowP z := by
    rw [List.getD_eq_getElem?_getD, List.getElem?_map, hz]
    rfl
  rw [e2] at rr
  have rm2 : Reads h' v (rowP (minL q qs)) cs := by
    rw [← minL_eq]
    exact rm
  have ez : z = minL q qs := reads_row (PySem.W.reads_keeps hk rr) rm2
  rw [ez] at hz
  exact ⟨x, H, I.kept (t' := tk) fun b o e => hk b o e, ru, k i x hx hz⟩
def cMinT : ARC := fun ds L K => match ds with
  | [d] => ∃ (q : List Int) (qs : List (List Int)), see L d = .lst ((q :: qs).map fun r => .tup (r.map .int)) ∧ K (.tup ((minL q qs).map .int)) L
  | _ => False
theorem pys_rows : ∀ rs : List (List Int), D.pys (rs.map fun r => .tup (r.map .int)) = rs.map rowP
  | [] => rfl
  | r :: rs => by
    rw [List.map_cons, List.map_cons, ← pys_rows rs]
    show PyData.tuple (D.pys (r.map .int)) :: _ = _
    have : ∀ r : List Int, D.pys (r.map .int) = r.map PyData.int := by
      intro r
      induction r with
      | nil => rfl
      | cons x r ih => show PyData.int x :: D.pys (r.map .int) = _; rw [ih]; rfl
    rw [this]
    rfl
theorem rc_minT : RC M (rMinT M.K) cMinT := by
  intro Z ds vs L H K Q W r t q
  unfold cMinT at t
  split at t
  · rename_i d
    obtain ⟨v, rfl, r1⟩ := reps1 r
    obtain ⟨a0, as, e, t⟩ := t
    obtain ⟨a, xs, rfl, h, rs⟩ := rep_lst (M := M.z Z) W r1 e
    have ho : okD 64 (see L d) = true := by rw [e]; exact okDs_map _ (fun r => okD_tints r 62) _
    have hd := dp_see (M := M.z Z) W r1 ho
    rw [e] at hd
    have hd2 : Dp M.K H (V.ref a) (.list (((a0 :: as) : List (List Int)).map rowP)) := by
      rw [← pys_rows]; exact hd
    cases hd2 with
    | lst s2 d2 =>
      have := dps_of (M := M.z Z) (n := 63) (L := L) (H := H) (ds := (a0 :: as).map fun r => D.tup (r.map .int)) (vs := xs) (okDs_map _ (fun r => okD_tints r 62) _) rs
      rw [pys_rows] at this
      refine ⟨a, xs, a0, as, rfl, h, this, fun i v hi hz => ?_⟩
      have hz2 : ((a0 :: as).map fun r => D.tup (r.map .int))[i]? = some (.tup ((minL a0 as).map .int)) := by rw [List.getElem?_map, hz]; rfl
      obtain ⟨v2, hv2, rv2⟩ := rs.get hz2
      rw [hi] at hv2
      cases hv2
      exact q _ _ _ _ (Pers.refl L H) W rv2 t
  · exact t.elim
theorem ae_minT {p : Pos} {k : Nat} (hr : Room k X.A) (hc : X.calm = true) (hg : Gl X "min") (hm : X.mg "min" = none) (ha : AE X e ta) (hs : starEach [e] X.env = (false, eval e X.env) :: starEach [] X.env := by rfl) : AE X (.Call (.Name "min" p) [e] [] pos) (aCall cMinT (aCons ta aNil)) :=
  ae_B (cr_minT hc hr.units) rc_minT hg hm (by decide +kernel) (aa_cons ha aa_nil hs) (he := hs)
end
end Wv

namespace Wv
open PySem PySem.Spec PyProof.Rows L2

/-! # all partings -/
def pts : List Int → Int → Int → List (List Bool)
  | [], _, _ => [[]]
  | c :: r, u, v => (if c < v then (pts r u c).map (false :: ·) else []) ++ (if u < c then (pts r c v).map (true :: ·) else [])
def fitM : List Int → List Bool → Int → Int → Bool
  | [], [], _, _ => true
  | c :: r, b :: m, u, v => if b then decide (u < c) && fitM r m c v else decide (c < v) && fitM r m u c
  | [], _ :: _, _, _ => false
  | _ :: _, [], _, _ => false
theorem mem_pts : ∀ {r : List Int} {m : List Bool} {u v : Int}, m ∈ pts r u v ↔ fitM r m u v = true
  | [], [], _, _ => by simp [pts, fitM]
  | [], _ :: _, _, _ => by simp [pts, fitM]
  | c :: r, [], u, v => by
    simp only [pts, fitM, List.mem_append]
    constructor
    · rintro (h | h) <;> (split at h <;> simp at h)
    · intro h; cases h
  | c :: r, b :: m, u, v => by
    simp only [pts, fitM, List.mem_append]
    cases b with
    | false =>
      simp only [Bool.false_eq_true, if_false, Bool.and_eq_true, decide_eq_true_iff]
      constructor
      · rintro (h | h)
        · split at h
          · rename_i hc
            obtain ⟨m', hm, e⟩ := List.mem_map.mp h
            cases e
            exact ⟨hc, mem_pts.mp hm⟩
          · simp at h
        · split at h
          · obtain ⟨m', hm, e⟩ := List.mem_map.mp h
            cases e
          · simp at h
      · rintro ⟨hc, h⟩
        left
        rw [if_pos hc]
        exact List.mem_map.mpr ⟨m, mem_pts.mpr h, rfl⟩
    | true =>
      simp only [if_true, Bool.and_eq_true, decide_eq_true_iff]
      constructor
      · rintro (h | h)
        · split at h
          · obtain ⟨m', hm, e⟩ := List.mem_map.mp h
            cases e
          · simp at h
        · split at h
          · rename_i hc
            obtain ⟨m', hm, e⟩ := List.mem_map.mp h
            cases e
            exact ⟨hc, mem_pts.mp hm⟩
          · simp at h
      · rintro ⟨hc, h⟩
        right
        rw [if_pos hc]
        exact List.mem_map.mpr ⟨m, mem_pts.mpr h, rfl⟩
theorem pts_nodup : ∀ (r : List Int) (u v : Int), (pts r u v).Nodup
  | [], _, _ => by simp [pts]
  | c :: r, u, v => by
    simp only [pts]
    rw [List.nodup_append]
    refine ⟨?_, ?_, ?_⟩
    · split
      · exact nodup_map_on (fun a _ b _ e => by injection e) (pts_nodup r u c)
      · simp
    · split
      · exact nodup_map_on (fun a _ b _ e => by injection e) (pts_nodup r c v)
      · simp
    · intro a ha b hb e
      subst e
      split at ha
      · split at hb
        · obtain ⟨x, _, ex⟩ := List.mem_map.mp ha
          obtain ⟨y, _, ey⟩ := List.mem_map.mp hb
          rw [← ex] at ey
          injection ey with e1
          cases e1
        · simp at hb
      · simp at ha
theorem good_pts : ∀ (r : List Int) (u v : Int), goodB r u v = !(pts r u v).isEmpty
  | [], _, _ => rfl
  | c :: r, u, v => by
    simp only [goodB, pts]
    rw [good_pts r c v, good_pts r u c]
    have key : ∀ (P : Prop) [Decidable P] (l : List (List Bool)) (b : Bool), (if P then l.map (b :: ·) else []).isEmpty = !(decide P && !l.isEmpty) := by
      intro P _ l b
      by_cases h : P
      · rw [if_pos h]; cases l <;> simp [h]
      · rw [if_neg h]; simp [h]
    have app : ∀ a b : List (List Bool), (a ++ b).isEmpty = (a.isEmpty && b.isEmpty) := by intro a b; cases a <;> rfl
    rw [app, key, key]
    cases decide (u < c) <;> cases decide (c < v) <;> cases (pts r c v).isEmpty <;> cases (pts r u c).isEmpty <;> rfl
/-- the ups of a mask -/
def upsM : List Int → List Bool → List Int
  | c :: r, b :: m => if b then c :: upsM r m else upsM r m
  | _, _ => []
theorem upsM_mem : ∀ {r : List Int} {m : List Bool} {x : Int}, x ∈ upsM r m → x ∈ r
  | [], _, _, h => by simp [upsM] at h
  | _ :: _, [], _, h => by simp [upsM] at h
  | c :: r, b :: m, x, h => by
    simp only [upsM] at h
    split at h
    · rcases List.mem_cons.mp h with h | h
      · simp [h]
      · simp [upsM_mem h]
    · simp [upsM_mem h]
theorem fitM_iff : ∀ {r : List Int} {m : List Bool} {u v : Int}, fitM r m u v = true ↔ m.length = r.length ∧ (u :: upsM r m).Pairwise (· < ·) ∧ (v :: upsM r (m.map (!·))).Pairwise (· > ·)
  | [], [], _, _ => by simp [fitM, upsM]
  | [], _ :: _, _, _ => by simp [fitM]
  | _ :: _, [], _, _ => by simp [fitM]
  | c :: r, b :: m, u, v => by
    cases b with
    | true =>
      simp only [fitM, upsM, List.map_cons, Bool.not_true, Bool.false_eq_true, if_true, if_false, Bool.and_eq_true, decide_eq_true_iff, List.length_cons, Nat.add_right_cancel_iff]
      rw [fitM_iff]
      constructor
      · rintro ⟨h, e, p, q⟩
        refine ⟨e, List.pairwise_cons.mpr ⟨fun x hx => ?_, p⟩, q⟩
        rcases List.mem_cons.mp hx with rfl | hx
        · exact h
        · have := (List.pairwise_cons.mp p).1 x hx; omega
      · rintro ⟨e, p, q⟩
        exact ⟨(List.pairwise_cons.mp p).1 c (by simp), e, (List.pairwise_cons.mp p).2, q⟩
    | false =>
      simp only [fitM, upsM, List.map_cons, Bool.not_false, Bool.false_eq_true, if_true, if_false, Bool.and_eq_true, decide_eq_true_iff, List.length_cons, Nat.add_right_cancel_iff]
      rw [fitM_iff]
      constructor
      · rintro ⟨h, e, p, q⟩
        refine ⟨e, p, List.pairwise_cons.mpr ⟨fun x hx => ?_, q⟩⟩
        rcases List.mem_cons.mp hx with rfl | hx
        · exact h
        · have := (List.pairwise_cons.mp q).1 x hx; show x < v; omega
      · rintro ⟨e, p, q⟩
        exact ⟨(List.pairwise_cons.mp q).1 c (by simp), e, p, (List.pairwise_cons.mp q).2⟩
/-- the partings of a row -/
def ptsR (r : List Int) : List (List Bool) := pts r (-1) 1000000001
def Pt (r : List Int) (m : List Bool) : Prop := m.length = r.length ∧ (upsM r m).Pairwise (· < ·) ∧ (upsM r (m.map (!·))).Pairwise (· > ·)
def Rg (r : List Int) : Prop := ∀ x ∈ r, 0 ≤ x ∧ x ≤ 1000000000
theorem mem_ptsR {r : List Int} (h : Rg r) {m : List Bool} : m ∈ ptsR r ↔ Pt r m := by
  unfold ptsR Pt
  rw [mem_pts, fitM_iff]
  constructor
  · rintro ⟨e, p, q⟩
    exact ⟨e, (List.pairwise_cons.mp p).2, (List.pairwise_cons.mp q).2⟩
  · rintro ⟨e, p, q⟩
    refine ⟨e, List.pairwise_cons.mpr ⟨fun x hx => ?_, p⟩, List.pairwise_cons.mpr ⟨fun x hx => ?_, q⟩⟩
    · have := h x (upsM_mem hx); omega
    · have := h x (upsM_mem hx); show x < 1000000001; omega
theorem ptsR_nodup (r : List Int) : (ptsR r).Nodup := pts_nodup _ _ _
theorem woven_pts (r : List Int) : wovenB r = !(ptsR r).isEmpty := good_pts _ _ _
theorem nn_map (m : List Bool) : (m.map (!·)).map (!·) = m := by
  rw [List.map_map]
  have : ((!·) ∘ (!·) : Bool → Bool) = id := by funext b; simp
  rw [this, List.map_id]
theorem upsM_append : ∀ {r s : List Int} {m n : List Bool}, m.length = r.length → upsM (r ++ s) (m ++ n) = upsM r m ++ upsM s n
  | [], _, [], _, _ => by simp [upsM]
  | [], _, _ :: _, _, h => by simp at h
  | _ :: _, _, [], _, h => by simp at h
  | c :: r, s, b :: m, n, h => by
    have ih := upsM_append (r := r) (s := s) (m := m) (n := n) (by simpa using h)
    cases b <;> simp [upsM, ih]
theorem upsM_reverse : ∀ {r : List Int} {m : List Bool}, m.length = r.length → upsM r.reverse m.reverse = (upsM r m).reverse
  | [], [], _ => by simp [upsM]
  | [], _ :: _, h => by simp at h
  | _ :: _, [], h => by simp at h
  | c :: r, b :: m, h => by
    have h2 : m.length = r.length := by simpa using h
    rw [List.reverse_cons, List.reverse_cons, upsM_append (by simpa using h2), upsM_reverse h2]
    cases b <;> simp [upsM]
theorem upsM_map (f : Int → Int) : ∀ (r : List Int) (m : List Bool), upsM (r.map f) m = (upsM r m).map f
  | [], _ => by simp [upsM]
  | _ :: _, [] => by simp [upsM]
  | c :: r, b :: m => by
    have ih := upsM_map f r m
    cases b <;> simp [upsM, ih]
theorem Pt.rev {r : List Int} {m : List Bool} (h : Pt r m) : Pt r.reverse (m.reverse.map (!·)) := by
  obtain ⟨e, p, q⟩ := h
  refine ⟨by simpa using e, ?_, ?_⟩
  · rw [List.map_reverse, upsM_reverse (by simpa using e), List.pairwise_reverse]
    exact q
  · rw [nn_map, upsM_reverse e, List.pairwise_reverse]
    exact p
def lessR (r : List Int) : List Int := r.map fun c => 1000000000 - c
theorem Pt.less {r : List Int} {m : List Bool} (h : Pt r m) : Pt (lessR r) (m.map (!·)) := by
  obtain ⟨e, p, q⟩ := h
  unfold lessR
  refine ⟨by simpa using e, ?_, ?_⟩
  · rw [upsM_map, List.pairwise_map]
    exact q.imp fun {a b} h => by have : a > b := h; show (1000000000 - a : Int) < 1000000000 - b; omega
  · rw [nn_map, upsM_map, List.pairwise_map]
    exact p.imp fun {a b} h => by show (1000000000 - a : Int) > 1000000000 - b; omega
theorem less_less (r : List Int) : lessR (lessR r) = r := by
  unfold lessR
  rw [List.map_map]
  have : ((fun c : Int => 1000000000 - c) ∘ fun c => 1000000000 - c) = id := by funext c; show (1000000000 - (1000000000 - c) : Int) = c; omega
  rw [this, List.map_id]
theorem Rg.rev {r : List Int} (h : Rg r) : Rg r.reverse := fun x hx => h x (List.mem_reverse.mp hx)
theorem Rg.less {r : List Int} (h : Rg r) : Rg (lessR r) := fun x hx => by
  obtain ⟨y, hy, rfl⟩ := List.mem_map.mp hx
  have := h y hy
  omega
theorem map_rev_not_inj {a b : List Bool} (h : a.reverse.map (!·) = b.reverse.map (!·)) : a = b := by
  have h2 := congrArg (List.map (!·)) h
  rw [nn_map, nn_map] at h2
  exact List.reverse_inj.mp h2
theorem pts_rev {r : List Int} (h : Rg r) : (ptsR r.reverse).Perm ((ptsR r).map fun m => m.reverse.map (!·)) := by
  refine (List.perm_ext_iff_of_nodup (ptsR_nodup _) (nodup_map_on (fun a _ b _ e => map_rev_not_inj e) (ptsR_nodup r))).mpr fun m => ?_
  rw [mem_ptsR h.rev, List.mem_map]
  constructor
  · intro p
    refine ⟨m.reverse.map (!·), (mem_ptsR h).mpr ?_, ?_⟩
    · have := p.rev
      rwa [List.reverse_reverse] at this
    · rw [← List.map_reverse, List.reverse_reverse, nn_map]
  · rintro ⟨m', hm, rfl⟩
    exact ((mem_ptsR h).mp hm).rev
theorem pts_less {r : List Int} (h : Rg r) : (ptsR (lessR r)).Perm ((ptsR r).map fun m => m.map (!·)) := by
  refine (List.perm_ext_iff_of_nodup (ptsR_nodup _) (nodup_map_on (fun a _ b _ e => by
    have h2 := congrArg (List.map (!·)) e
    rwa [nn_map, nn_map] at h2) (ptsR_nodup r))).mpr fun m => ?_
  rw [mem_ptsR h.less, List.mem_map]
  constructor
  · intro p
    refine ⟨m.map (!·), (mem_ptsR h).mpr ?_, nn_map m⟩
    have := p.less
    rwa [less_less] at this
  · rintro ⟨m', hm, rfl⟩
    exact ((mem_ptsR h).mp hm).less
/-- rows whose cards stand alike in size -/
theorem pts_alike (f : Int → Int) : ∀ (r : List Int) (u v u' v' : Int), (∀ x ∈ r, (u < x ↔ u' < f x)) → (∀ x ∈ r, (x < v ↔ f x < v')) → (∀ x ∈ r, ∀ y ∈ r, (x < y ↔ f x < f y)) → pts (r.map f) u' v' = pts r u v
  | [], _, _, _, _, _, _, _ => rfl
  | c :: r, u, v, u', v', hu, hv, hf => by
    simp only [List.map_cons, pts]
    have e1 : pts (r.map f) u' (f c) = pts r u c := pts_alike f r u c u' (f c) (fun x hx => hu x (by simp [hx])) (fun x hx => hf x (by simp [hx]) c (by simp)) fun x hx y hy => hf x (by simp [hx]) y (by simp [hy])
    have e2 : pts (r.map f) (f c) v' = pts r c v := pts_alike f r c v (f c) v' (fun x hx => hf c (by simp) x (by simp [hx])) (fun x hx => hv x (by simp [hx])) fun x hx y hy => hf x (by simp [hx]) y (by simp [hy])
    rw [e1, e2]
    have h1 := hu c (by simp)
    have h2 := hv c (by simp)
    by_cases p : u < c <;> by_cases q : c < v <;> simp [p, q, ← h1, ← h2]
theorem ptsR_alike {f : Int → Int} {r : List Int} (h : Rg r) (h2 : Rg (r.map f)) (hf : ∀ x ∈ r, ∀ y ∈ r, (x < y ↔ f x < f y)) : ptsR (r.map f) = ptsR r :=
  pts_alike f r _ _ _ _ (fun x hx => by
    have a := h x hx
    have b := h2 (f x) (List.mem_map.mpr ⟨x, hx, rfl⟩)
    exact ⟨fun _ => by omega, fun _ => by omega⟩) (fun x hx => by
    have a := h x hx
    have b := h2 (f x) (List.mem_map.mpr ⟨x, hx, rfl⟩)
    exact ⟨fun _ => by omega, fun _ => by omega⟩) hf

/-! ## there are few partings -/
theorem upsM_pair : ∀ {r : List Int} {m : List Bool} {R : Int → Int → Prop}, (upsM r m).Pairwise R → ∀ {i j : Nat} {x y : Int}, i < j → m[i]? = some true → m[j]? = some true → r[i]? = some x → r[j]? = some y → R x y
  | [], _, _, _, _, _, _, _, _, _, _, h, _ => by simp at h
  | _ :: _, [], _, _, _, _, _, _, _, h, _, _, _ => by simp at h
  | c :: r, b :: m, R, p, 0, 0, _, _, h, _, _, _, _ => by omega
  | c :: r, b :: m, R, p, i + 1, 0, _, _, h, _, _, _, _ => by omega
  | c :: r, b :: m, R, p, 0, j + 1, x, y, _, hi, hj, hx, hy => by
    simp at hi hx
    subst hi; subst hx
    simp only [upsM, if_true] at p
    have hmem : ∀ {r : List Int} {m : List Bool} {j : Nat} {y : Int}, m[j]? = some true → r[j]? = some y → y ∈ upsM r m := by
      intro r
      induction r with
      | nil => intro m j y _ h; simp at h
      | cons c r ih =>
        intro m j y hm hr
        cases m with
        | nil => simp at hm
        | cons b m =>
          cases j with
          | zero =>
            simp at hm hr
            subst hm; subst hr
            simp [upsM]
          | succ j =>
            have := ih (m := m) (j := j) (y := y) (by simpa using hm) (by simpa using hr)
            simp only [upsM]
            split
            · simp [this]
            · exact this
    exact (List.pairwise_cons.mp p).1 y (hmem (by simpa using hj) (by simpa using hy))
  | c :: r, b :: m, R, p, i + 1, j + 1, x, y, h, hi, hj, hx, hy => by
    have p2 : (upsM r m).Pairwise R := by
      simp only [upsM] at p
      split at p
      · exact (List.pairwise_cons.mp p).2
      · exact p
    exact upsM_pair p2 (by omega : i < j) (by simpa using hi) (by simpa using hj) (by simpa using hx) (by simpa using hy)
theorem Pt.up {r : List Int} {m : List Bool} (h : Pt r m) {i j : Nat} {x y : Int} (hij : i < j) (hi : m[i]? = some true) (hj : m[j]? = some true) (hx : r[i]? = some x) (hy : r[j]? = some y) : x < y := upsM_pair h.2.1 hij hi hj hx hy
theorem Pt.dn {r : List Int} {m : List Bool} (h : Pt r m) {i j : Nat} {x y : Int} (hij : i < j) (hi : m[i]? = some false) (hj : m[j]? = some false) (hx : r[i]? = some x) (hy : r[j]? = some y) : y < x :=
  upsM_pair (R := (· > ·)) h.2.2 hij (by rw [List.getElem?_map, hi]; rfl) (by rw [List.getElem?_map, hj]; rfl) hx hy
/-- where m parts from m0: a place where b is there, not b here -/
def partAt (b : Bool) (m0 m : List Bool) (n : Nat) : Option Nat := (List.range n).find? fun p => decide (m0[p]? = some b) && decide (m[p]? = some (!b))
theorem partAt_one {r : List Int} {m0 m : List Bool} (h0 : Pt r m0) (h : Pt r m) {b : Bool} {p q : Nat} (hp : p < r.length) (hq : q < r.length) (hpq : p < q) (e1 : m0[p]? = some b) (e2 : m0[q]? = some b) (e3 : m[p]? = some (!b)) (e4 : m[q]? = some (!b)) : False := by
  obtain ⟨x, hx⟩ : ∃ x, r[p]? = some x := ⟨_, List.getElem?_eq_getElem hp⟩
  obtain ⟨y, hy⟩ : ∃ y, r[q]? = some y := ⟨_, List.getElem?_eq_getElem hq⟩
  cases b with
  | true =>
    have a := h0.up hpq e1 e2 hx hy
    have c := h.dn hpq e3 e4 hx hy
    omega
  | false =>
    have a := h0.dn hpq e1 e2 hx hy
    have c := h.up hpq e3 e4 hx hy
    omega
theorem partAt_iff {r : List Int} {m0 m : List Bool} (h0 : Pt r m0) (h : Pt r m) {b : Bool} {p : Nat} (hp : p < r.length) (e1 : m0[p]? = some b) : m[p]? = some (!b) ↔ partAt b m0 m r.length = some p := by
  unfold partAt
  constructor
  · intro e
    cases e2 : (List.range r.length).find? fun p => decide (m0[p]? = some b) && decide (m[p]? = some (!b)) with
    | none =>
      have := List.find?_eq_none.mp e2 p (List.mem_range.mpr hp)
      simp [e1, e] at this
    | some q =>
      have h1 := List.find?_some e2
      have h2 := List.mem_range.mp (List.mem_of_find?_eq_some e2)
      simp only [Bool.and_eq_true, decide_eq_true_iff] at h1
      by_cases hpq : p = q
      · rw [hpq]
      · exfalso
        rcases Nat.lt_or_gt_of_ne hpq with g | g
        · exact partAt_one h0 h hp h2 g e1 h1.1 e h1.2
        · exact partAt_one h0 h h2 hp g h1.1 e1 h1.2 e
  · intro e
    have h1 := List.find?_some e
    simp only [Bool.and_eq_true, decide_eq_true_iff] at h1
    exact h1.2
theorem partAt_mem (b : Bool) (m0 m : List Bool) (n : Nat) : partAt b m0 m n ∈ (none :: (List.range n).map some : List (Option Nat)) := by
  unfold partAt
  cases e2 : (List.range n).find? fun p => decide (m0[p]? = some b) && decide (m[p]? = some (!b)) with
  | none => simp
  | some q =>
    have h2 := List.mem_of_find?_eq_some e2
    simp only [List.mem_cons, List.mem_map]
    right
    exact ⟨q, h2, rfl⟩
theorem pts_few {r : List Int} (h : Rg r) : (ptsR r).length ≤ (r.length + 1) * (r.length + 1) := by
  cases e : ptsR r with
  | nil => simp
  | cons m0 ms =>
    rw [← e]
    have h0 : Pt r m0 := (mem_ptsR h).mp (by rw [e]; simp)
    have hnd : ((ptsR r).map fun m => (partAt true m0 m r.length, partAt false m0 m r.length)).Nodup := by
      refine nodup_map_on (fun a ha b hb e2 => ?_) (ptsR_nodup r)
      have pa := (mem_ptsR h).mp ha
      have pb := (mem_ptsR h).mp hb
      injection e2 with e3 e4
      apply List.ext_getElem?
      intro p
      by_cases hp : p < r.length
      · obtain ⟨b0, hb0⟩ : ∃ b0, m0[p]? = some b0 := ⟨_, List.getElem?_eq_getElem (by rw [h0.1]; exact hp)⟩
        have ia := partAt_iff h0 pa hp hb0
        have ib := partAt_iff h0 pb hp hb0
        have ec : partAt b0 m0 a r.length = partAt b0 m0 b r.length := by cases b0 <;> assumption
        rw [ec] at ia
        obtain ⟨x, hx⟩ : ∃ x, a[p]? = some x := ⟨_, List.getElem?_eq_getElem (by rw [pa.1]; exact hp)⟩
        obtain ⟨y, hy⟩ : ∃ y, b[p]? = some y := ⟨_, List.getElem?_eq_getElem (by rw [pb.1]; exact hp)⟩
        rw [hx] at ia ⊢
        rw [hy] at ib ⊢
        have := ia.trans ib.symm
        cases x <;> cases y <;> cases b0 <;> simp at this ⊢
      · rw [List.getElem?_eq_none (by rw [pa.1]; omega), List.getElem?_eq_none (by rw [pb.1]; omega)]
    have := List.Nodup.length_le_of_subset (l₂ := (none :: (List.range r.length).map some : List (Option Nat)).flatMap fun x => (none :: (List.range r.length).map some : List (Option Nat)).map fun y => (x, y)) hnd (fun z hz => by
      obtain ⟨m, _, rfl⟩ := List.mem_map.mp hz
      rw [List.mem_flatMap]
      exact ⟨_, partAt_mem _ _ _ _, List.mem_map.mpr ⟨_, partAt_mem _ _ _ _, rfl⟩⟩)
    rw [List.length_map] at this
    refine Nat.le_trans this (Nat.le_trans (len_flat (m := r.length + 1) fun x _ => by simp) (by simp))
end Wv

namespace Wv
open PySem PySem.Spec PyProof.Rows L2

/-! # a row parts if and only if no four bars it -/
def Bar (a b c d : Int) : Prop := (b < a ∧ a < d ∧ d < c) ∨ (c < d ∧ d < a ∧ a < b)
instance (a b c d : Int) : Decidable (Bar a b c d) := by unfold Bar; infer_instance
structure Up (f : Nat → Int) (n : Nat) (up : Nat → Bool) : Prop where
  ris : ∀ i j, i < j → j < n → up i = true → up j = true → f i < f j
  fal : ∀ i j, i < j → j < n → up i = false → up j = false → f j < f i
theorem up_fix {f : Nat → Int} {n v u : Nat} {up : Nat → Bool} (hne : ∀ i j, i < j → j ≤ n → f i ≠ f j) (hno : ∀ a b c, a < b → b < c → c < n → ¬ Bar (f a) (f b) (f c) (f n))
    (h : Up f n up) (hv : v < n) (dv : up v = false) (fv : f v < f n) (one : ∀ k, k < n → up k = false → f k < f n → k = v) (hu : u < n) (uu : up u = true) (fu : f n < f u) (hvu : v < u) :
    ∃ up', Up f (n + 1) up' := by
  have before : ∀ j, j < n → up j = true → f j < f n → j < u := by
    intro j hj uj fj
    apply Classical.byContradiction
    intro z
    rcases Nat.lt_or_ge u j with q | q
    · have := h.ris u j q hj uu uj; omega
    · have : u = j := by omega
      subst this; omega
  refine ⟨fun t => if t = n then false else if t = v then true else if up t = true ∧ t < v ∧ f n < f t then false else up t, ⟨fun i j hij hj ei ej => ?_, fun i j hij hj ei ej => ?_⟩⟩
  · by_cases jn : j = n
    · subst jn; simp at ej
    have hjn : j < n := by omega
    have hin : i < n := by omega
    have hi' : i ≠ n := by omega
    have ni := hne i n hin (Nat.le_refl n)
    have nj := hne j n hjn (Nat.le_refl n)
    have nij := hne i j hij (by omega)
    by_cases iv : i = v
    · subst iv
      have jv : j ≠ i := by omega
      simp only [if_neg jn, if_neg jv] at ej
      have uj : up j = true := by
        split at ej
        · cases ej
        · exact ej
      by_cases g : f n < f j
      · omega
      · apply Classical.byContradiction
        intro hc
        have hju := before j hjn uj (by omega)
        exact hno i j u hij hju hu (.inl ⟨by omega, by omega, by omega⟩)
    · by_cases jv : j = v
      · subst jv
        simp only [if_neg hi', if_neg iv] at ei
        have ui : up i = true := by
          split at ei
          · cases ei
          · exact ei
        have gi : ¬ f n < f i := fun g => by
          rw [if_pos ⟨ui, hij, g⟩] at ei
          cases ei
        apply Classical.byContradiction
        intro hc
        exact hno i j u hij hvu hu (.inl ⟨by omega, by omega, by omega⟩)
      · simp only [if_neg jn, if_neg jv] at ej
        simp only [if_neg hi', if_neg iv] at ei
        have uj : up j = true := by
          split at ej
          · cases ej
          · exact ej
        have ui : up i = true := by
          split at ei
          · cases ei
          · exact ei
        exact h.ris i j hij hjn ui uj
  · have low : ∀ t, t < n → (if t = n then false else if t = v then true else if up t = true ∧ t < v ∧ f n < f t then false else up t) = false → t ≠ v ∧ f n < f t ∧ (up t = true → t < v) := by
      intro t ht e
      rw [if_neg (by omega : t ≠ n)] at e
      by_cases tv : t = v
      · rw [if_pos tv] at e; cases e
      · rw [if_neg tv] at e
        refine ⟨tv, ?_, ?_⟩
        · split at e
          · rename_i k; exact k.2.2
          · have := hne t n ht (Nat.le_refl n)
            apply Classical.byContradiction
            intro z
            exact tv (one t ht e (by omega))
        · intro ut
          split at e
          · rename_i k; exact k.2.1
          · rw [ut] at e; cases e
    have hin : i < n := by omega
    obtain ⟨iv, fi, ui⟩ := low i hin ei
    by_cases jn : j = n
    · subst jn; exact fi
    have hjn : j < n := by omega
    obtain ⟨jv, fj, uj⟩ := low j hjn ej
    have nij := hne i j hij (by omega)
    apply Classical.byContradiction
    intro hc
    cases e1 : up i with
    | false =>
      cases e2 : up j with
      | false => exact hc (h.fal i j hij hjn e1 e2)
      | true => exact hno i j v hij (uj e2) hv (.inr ⟨by omega, by omega, by omega⟩)
    | true =>
      cases e2 : up j with
      | true => exact hno i j v hij (uj e2) hv (.inr ⟨by omega, by omega, by omega⟩)
      | false =>
        have hjv : j < v := by
          apply Classical.byContradiction
          intro z
          have := h.fal v j (by omega) hjn dv e2
          omega
        exact hno i j v hij hjv hv (.inr ⟨by omega, by omega, by omega⟩)
theorem Up.neg {f : Nat → Int} {n : Nat} {up : Nat → Bool} (h : Up f n up) : Up (fun i => -f i) n (fun i => !up i) :=
  ⟨fun i j hij hj a b => by have := h.fal i j hij hj (by simpa using a) (by simpa using b); show -f i < -f j; omega,
   fun i j hij hj a b => by have := h.ris i j hij hj (by simpa using a) (by simpa using b); show -f j < -f i; omega⟩
theorem bar_neg (a b c d : Int) : Bar (-a) (-b) (-c) (-d) ↔ Bar a b c d := by
  unfold Bar
  constructor
  · rintro (h | h)
    · exact .inr ⟨by omega, by omega, by omega⟩
    · exact .inl ⟨by omega, by omega, by omega⟩
  · rintro (h | h)
    · exact .inr ⟨by omega, by omega, by omega⟩
    · exact .inl ⟨by omega, by omega, by omega⟩
theorem last_of {P : Nat → Prop} [DecidablePred P] : ∀ n, (∃ i, i < n ∧ P i) → ∃ m, m < n ∧ P m ∧ ∀ i, i < n → P i → i ≤ m
  | 0, ⟨i, h, _⟩ => by omega
  | n + 1, ⟨i, h, p⟩ => by
    by_cases pn : P n
    · exact ⟨n, by omega, pn, fun j hj _ => by omega⟩
    · have : i ≠ n := fun e => pn (e ▸ p)
      obtain ⟨m, hm, pm, k⟩ := last_of n ⟨i, by omega, p⟩
      refine ⟨m, by omega, pm, fun j hj pj => k j ?_ pj⟩
      have : j ≠ n := fun e => pn (e ▸ pj)
      omega
theorem up_of (f : Nat → Int) : ∀ n, (∀ i j, i < j → j < n → f i ≠ f j) → (∀ a b c d, a < b → b < c → c < d → d < n → ¬ Bar (f a) (f b) (f c) (f d)) → ∃ up, Up f n up
  | 0, _, _ => ⟨fun _ => true, ⟨fun _ _ _ h => by omega, fun _ _ _ h => by omega⟩⟩
  | n + 1, hne, hno => by
    obtain ⟨up, h⟩ := up_of f n (fun i j a b => hne i j a (by omega)) fun a b c d h1 h2 h3 h4 => hno a b c d h1 h2 h3 (by omega)
    have hne' : ∀ i j, i < j → j ≤ n → f i ≠ f j := fun i j a b => hne i j a (by omega)
    have hno' : ∀ a b c, a < b → b < c → c < n → ¬ Bar (f a) (f b) (f c) (f n) := fun a b c h1 h2 h3 => hno a b c n h1 h2 h3 (by omega)
    by_cases hU : ∃ i, i < n ∧ (up i = true ∧ f n < f i)
    · by_cases hD : ∃ i, i < n ∧ (up i = false ∧ f i < f n)
      · obtain ⟨mu, hmu, pu, ku⟩ := last_of n hU
        obtain ⟨md, hmd, pd, kd⟩ := last_of n hD
        have hne3 : mu ≠ md := fun e => by rw [e] at pu; rw [pu.1] at pd; cases pd.1
        rcases Nat.lt_or_gt_of_ne hne3 with g | g
        · -- the last is a down: one up alone
          have := up_fix (f := fun i => -f i) (n := n) (v := mu) (u := md) (up := fun i => !up i) (fun i j a b e => hne' i j a b (by have : -f i = -f j := e; omega))
            (fun a b c h1 h2 h3 hb => hno' a b c h1 h2 h3 ((bar_neg _ _ _ _).mp hb)) h.neg hmu (by simp [pu.1]) (by have := pu.2; show -f mu < -f n; omega)
            (fun k hk uk fk => by
              have uk2 : up k = true := by simpa using uk
              have fk2 : f n < f k := by have : -f k < -f n := fk; omega
              have := ku k hk ⟨uk2, fk2⟩
              apply Classical.byContradiction
              intro z
              have lt := h.ris k mu (by omega) hmu uk2 pu.1
              exact hno' k mu md (by omega) g hmd (.inr ⟨pd.2, by omega, lt⟩))
            hmd (by simp [pd.1]) (by have := pd.2; show -f n < -f md; omega) g
          obtain ⟨up', h'⟩ := this
          have h2 := h'.neg
          have e : (fun i => -(-f i)) = f := by funext i; omega
          simp only [Int.neg_neg] at h2
          exact ⟨_, h2⟩
        · exact up_fix hne' hno' h hmd pd.1 pd.2 (fun k hk uk fk => by
            have := kd k hk ⟨uk, fk⟩
            apply Classical.byContradiction
            intro z
            have lt := h.fal k md (by omega) hmd uk pd.1
            exact hno' k md mu (by omega) g hmu (.inl ⟨lt, fk, pu.2⟩)) hmu pu.1 pu.2 g
      · refine ⟨fun i => if i = n then false else up i, ⟨fun i j hij hj a b => ?_, fun i j hij hj a b => ?_⟩⟩
        · by_cases jn : j = n
          · subst jn; simp at b
          · simp only [if_neg jn] at b
            simp only [if_neg (by omega : i ≠ n)] at a
            exact h.ris i j hij (by omega) a b
        · simp only [if_neg (by omega : i ≠ n)] at a
          by_cases jn : j = n
          · subst jn
            have := hne' i j hij (Nat.le_refl _)
            apply Classical.byContradiction
            intro z
            exact hD ⟨i, hij, a, by omega⟩
          · simp only [if_neg jn] at b
            exact h.fal i j hij (by omega) a b
    · refine ⟨fun i => if i = n then true else up i, ⟨fun i j hij hj a b => ?_, fun i j hij hj a b => ?_⟩⟩
      · simp only [if_neg (by omega : i ≠ n)] at a
        by_cases jn : j = n
        · subst jn
          have := hne' i j hij (Nat.le_refl _)
          apply Classical.byContradiction
          intro z
          exact hU ⟨i, hij, a, by omega⟩
        · simp only [if_neg jn] at b
          exact h.ris i j hij (by omega) a b
      · by_cases jn : j = n
        · subst jn; simp at b
        · simp only [if_neg jn] at b
          simp only [if_neg (by omega : i ≠ n)] at a
          exact h.fal i j hij (by omega) a b
theorem up_no {f : Nat → Int} {n : Nat} {up : Nat → Bool} (h : Up f n up) {a b c d : Nat} (h1 : a < b) (h2 : b < c) (h3 : c < d) (h4 : d < n) : ¬ Bar (f a) (f b) (f c) (f d) := by
  intro hb
  have r : ∀ i j, i < j → j < n → (up i = true → up j = true → f i < f j) ∧ (up i = false → up j = false → f j < f i) := fun i j x y => ⟨h.ris i j x y, h.fal i j x y⟩
  have ab := r a b h1 (by omega)
  have ac := r a c (by omega) (by omega)
  have ad := r a d (by omega) h4
  have bc := r b c h2 (by omega)
  have bd := r b d (by omega) h4
  have cd := r c d h3 h4
  rcases hb with ⟨x, y, z⟩ | ⟨x, y, z⟩ <;> cases ea : up a <;> cases eb : up b <;> cases ec : up c <;> cases ed : up d <;> simp only [ea, eb, ec, ed, true_implies, false_implies, reduceCtorEq, implies_true, and_true, true_and] at ab ac ad bc bd cd <;> omega
end Wv

namespace Wv
open PySem PySem.Spec PyProof.Rows L2
theorem upsM_of : ∀ {r : List Int} {m : List Bool} {R : Int → Int → Prop}, (∀ (i j : Nat) (x y : Int), i < j → m[i]? = some true → m[j]? = some true → r[i]? = some x → r[j]? = some y → R x y) → (upsM r m).Pairwise R
  | [], _, _, _ => by simp [upsM]
  | _ :: _, [], _, _ => by simp [upsM]
  | c :: r, b :: m, R, h => by
    have ih : (upsM r m).Pairwise R := upsM_of fun i j x y hij a b c d => h (i + 1) (j + 1) x y (by omega) (by simpa using a) (by simpa using b) (by simpa using c) (by simpa using d)
    have hm : ∀ {r : List Int} {m : List Bool} {y : Int}, y ∈ upsM r m → ∃ j : Nat, m[j]? = some true ∧ r[j]? = some y := by
      intro r
      induction r with
      | nil => intro m y hy; simp [upsM] at hy
      | cons c r ih2 =>
        intro m y hy
        cases m with
        | nil => simp [upsM] at hy
        | cons b m =>
          simp only [upsM] at hy
          split at hy
          · rcases List.mem_cons.mp hy with rfl | hy
            · rename_i hb
              exact ⟨0, by simp [hb], by simp⟩
            · obtain ⟨j, a, b⟩ := ih2 hy
              exact ⟨j + 1, by simpa using a, by simpa using b⟩
          · obtain ⟨j, a, b⟩ := ih2 hy
            exact ⟨j + 1, by simpa using a, by simpa using b⟩
    simp only [upsM]
    split
    · rename_i hb
      refine List.pairwise_cons.mpr ⟨fun y hy => ?_, ih⟩
      obtain ⟨j, a, d⟩ := hm hy
      exact h 0 (j + 1) c y (by omega) (by simp [hb]) (by simpa using a) (by simp) (by simpa using d)
    · exact ih
def at0 (r : List Int) (i : Nat) : Int := (r[i]?).getD 0
theorem at0_get {r : List Int} {i : Nat} (h : i < r.length) : r[i]? = some (at0 r i) := by
  unfold at0
  rw [List.getElem?_eq_getElem h]
  rfl
theorem at0_eq {r : List Int} {i : Nat} {x : Int} (h : r[i]? = some x) : at0 r i = x := by unfold at0; rw [h]; rfl
theorem at0_ne {r : List Int} (h : r.Nodup) {i j : Nat} (hij : i < j) (hj : j < r.length) : at0 r i ≠ at0 r j := by
  intro e
  have h1 := at0_get (r := r) (i := i) (by omega)
  have h2 := at0_get (r := r) hj
  rw [e] at h1
  have := (List.getElem?_inj (by omega) h).mp (h1.trans h2.symm)
  omega
theorem pt_up {r : List Int} {m : List Bool} (h : Pt r m) : Up (at0 r) r.length (fun i => (m[i]?).getD false) := by
  have get : ∀ i, i < r.length → m[i]? = some ((m[i]?).getD false) := fun i hi => by
    rw [List.getElem?_eq_getElem (by rw [h.1]; exact hi)]; rfl
  refine ⟨fun i j hij hj a b => ?_, fun i j hij hj a b => ?_⟩
  · exact h.up hij (by rw [get i (by omega)]; exact congrArg some a) (by rw [get j hj]; exact congrArg some b) (at0_get (by omega)) (at0_get hj)
  · exact h.dn hij (by rw [get i (by omega)]; exact congrArg some a) (by rw [get j hj]; exact congrArg some b) (at0_get (by omega)) (at0_get hj)
theorem up_pt {r : List Int} {up : Nat → Bool} (h : Up (at0 r) r.length up) : Pt r ((List.range r.length).map up) := by
  have gm : ∀ {i : Nat} {b : Bool}, ((List.range r.length).map up)[i]? = some b → i < r.length ∧ up i = b := by
    intro i b e
    rw [List.getElem?_map] at e
    obtain ⟨k, hk, e2⟩ := Option.map_eq_some_iff.mp e
    obtain ⟨hl, e3⟩ := List.getElem?_eq_some_iff.mp hk
    rw [List.length_range] at hl
    simp at e3
    subst e3
    exact ⟨hl, e2⟩
  refine ⟨by simp, upsM_of fun i j x y hij a b hx hy => ?_, upsM_of (R := (· > ·)) fun i j x y hij a b hx hy => ?_⟩
  · obtain ⟨_, ea⟩ := gm a
    obtain ⟨hj, eb⟩ := gm b
    have := h.ris i j hij hj ea eb
    rw [at0_eq hx, at0_eq hy] at this
    exact this
  · have conv : ∀ {i : Nat}, (((List.range r.length).map up).map (!·))[i]? = some true → i < r.length ∧ up i = false := by
      intro i e
      rw [List.getElem?_map] at e
      obtain ⟨b, hb, e2⟩ := Option.map_eq_some_iff.mp e
      obtain ⟨hl, e3⟩ := gm hb
      exact ⟨hl, by rw [e3]; simpa using e2⟩
    obtain ⟨_, ea⟩ := conv a
    obtain ⟨hj, eb⟩ := conv b
    have := h.fal i j hij hj ea eb
    rw [at0_eq hx, at0_eq hy] at this
    exact this

/-! ## the fours of a row -/
def f3 (r : List Int) (l i j k : Nat) : Option (List Int) := if Bar (at0 r i) (at0 r j) (at0 r k) (at0 r l) then some [(i : Int), (j : Int), (k : Int), (l : Int)] else none
def fw3 (r : List Int) (l i j : Nat) : Option (List Int) := (List.range (l - (j + 1))).findSome? fun t => f3 r l i j (j + 1 + t)
def fw2 (r : List Int) (l i : Nat) : Option (List Int) := (List.range (l - (i + 1))).findSome? fun t => fw3 r l i (i + 1 + t)
def fourWith (r : List Int) (l : Nat) : Option (List Int) := (List.range l).findSome? fun i => fw2 r l i
def fours (r : List Int) : List (List Int) := (List.range (r.length - 3)).filterMap fun t => fourWith r (3 + t)
def fourOf (r : List Int) : Option (List Int) := match fours r with
  | [] => none
  | q :: qs => some (minL q qs)
def IsFour (r : List Int) (q : List Int) : Prop := ∃ i j k l : Nat, i < j ∧ j < k ∧ k < l ∧ l < r.length ∧ Bar (at0 r i) (at0 r j) (at0 r k) (at0 r l) ∧ q = [(i : Int), (j : Int), (k : Int), (l : Int)]
theorem fourWith_some {r : List Int} {l : Nat} {q : List Int} (h : fourWith r l = some q) : ∃ i j k : Nat, i < j ∧ j < k ∧ k < l ∧ Bar (at0 r i) (at0 r j) (at0 r k) (at0 r l) ∧ q = [(i : Int), (j : Int), (k : Int), (l : Int)] := by
  obtain ⟨i, hi, h⟩ := List.exists_of_findSome?_eq_some h
  obtain ⟨s, hs, h⟩ := List.exists_of_findSome?_eq_some h
  obtain ⟨t, ht, h⟩ := List.exists_of_findSome?_eq_some h
  rw [List.mem_range] at hi hs ht
  unfold f3 at h
  split at h
  · rename_i hb
    cases h
    exact ⟨i, i + 1 + s, i + 1 + s + 1 + t, by omega, by omega, by omega, hb, rfl⟩
  · cases h
theorem fourWith_none {r : List Int} {l : Nat} (h : fourWith r l = none) {i j k : Nat} (h1 : i < j) (h2 : j < k) (h3 : k < l) : ¬ Bar (at0 r i) (at0 r j) (at0 r k) (at0 r l) := by
  intro hb
  have a := List.findSome?_eq_none_iff.mp h i (List.mem_range.mpr (by omega))
  have b := List.findSome?_eq_none_iff.mp a (j - (i + 1)) (List.mem_range.mpr (by omega))
  have ej : i + 1 + (j - (i + 1)) = j := by omega
  simp only [ej] at b
  have c := List.findSome?_eq_none_iff.mp b (k - (j + 1)) (List.mem_range.mpr (by omega))
  have ek : j + 1 + (k - (j + 1)) = k := by omega
  simp only [ek] at c
  unfold f3 at c
  rw [if_pos hb] at c
  cases c
theorem fours_is {r : List Int} {q : List Int} (h : q ∈ fours r) : IsFour r q := by
  unfold fours at h
  obtain ⟨t, ht, e⟩ := List.mem_filterMap.mp h
  rw [List.mem_range] at ht
  obtain ⟨i, j, k, a, b, c, d, e⟩ := fourWith_some e
  exact ⟨i, j, k, 3 + t, a, b, c, by omega, d, e⟩
theorem fourOf_is {r : List Int} {q : List Int} (h : fourOf r = some q) : IsFour r q := by
  unfold fourOf at h
  split at h
  · cases h
  · rename_i p ps e
    cases h
    exact fours_is (by rw [e]; exact minL_mem p ps)
theorem fourOf_none {r : List Int} (h : fourOf r = none) {i j k l : Nat} (h1 : i < j) (h2 : j < k) (h3 : k < l) (h4 : l < r.length) : ¬ Bar (at0 r i) (at0 r j) (at0 r k) (at0 r l) := by
  unfold fourOf at h
  split at h
  · rename_i e
    unfold fours at e
    have := List.filterMap_eq_nil_iff.mp e (l - 3) (List.mem_range.mpr (by omega))
    have el : 3 + (l - 3) = l := by omega
    simp only [el] at this
    exact fourWith_none this h1 h2 h3
  · cases h
theorem fs_congr {α β : Type} {f g : α → Option β} : ∀ {l : List α}, (∀ x ∈ l, f x = g x) → l.findSome? f = l.findSome? g
  | [], _ => rfl
  | x :: l, h => by
    rw [List.findSome?_cons, List.findSome?_cons, h x (by simp), fs_congr fun y hy => h y (by simp [hy])]
theorem fm_congr {α β : Type} {f g : α → Option β} : ∀ {l : List α}, (∀ x ∈ l, f x = g x) → l.filterMap f = l.filterMap g
  | [], _ => rfl
  | x :: l, h => by
    rw [List.filterMap_cons, List.filterMap_cons, h x (by simp), fm_congr fun y hy => h y (by simp [hy])]
theorem fourOf_congr {r s : List Int} (hl : r.length = s.length) (h : ∀ i j k l : Nat, i < j → j < k → k < l → l < r.length → (Bar (at0 r i) (at0 r j) (at0 r k) (at0 r l) ↔ Bar (at0 s i) (at0 s j) (at0 s k) (at0 s l))) : fourOf r = fourOf s := by
  have hw : ∀ l, l < r.length → fourWith r l = fourWith s l := by
    intro l hlr
    unfold fourWith
    refine fs_congr fun i hi => ?_
    rw [List.mem_range] at hi
    unfold fw2
    refine fs_congr fun t ht => ?_
    rw [List.mem_range] at ht
    unfold fw3
    refine fs_congr fun u hu => ?_
    rw [List.mem_range] at hu
    unfold f3
    have := h i (i + 1 + t) (i + 1 + t + 1 + u) l (by omega) (by omega) (by omega) hlr
    by_cases hb : Bar (at0 r i) (at0 r (i + 1 + t)) (at0 r (i + 1 + t + 1 + u)) (at0 r l)
    · rw [if_pos hb, if_pos (this.mp hb)]
    · rw [if_neg hb, if_neg fun z => hb (this.mpr z)]
  have : fours r = fours s := by
    unfold fours
    rw [hl]
    refine fm_congr fun t ht => ?_
    rw [List.mem_range] at ht
    exact hw _ (by omega)
  unfold fourOf
  rw [this]
/-- points 3 to 6: a row parts, or some four bars it -/
theorem parts_iff {r : List Int} (h : Row r) : ptsR r = [] ↔ fourOf r ≠ none := by
  constructor
  · intro e hn
    obtain ⟨up, hu⟩ := up_of (at0 r) r.length (fun i j a b => at0_ne h.nd a b) fun a b c d h1 h2 h3 h4 => fourOf_none hn h1 h2 h3 h4
    have := (mem_ptsR (r := r) h.rng).mpr (up_pt hu)
    rw [e] at this
    simp at this
  · intro hn
    cases e : ptsR r with
    | nil => rfl
    | cons m ms =>
      exfalso
      have hp : Pt r m := (mem_ptsR h.rng).mp (by rw [e]; simp)
      cases e2 : fourOf r with
      | none => exact hn e2
      | some q =>
        obtain ⟨i, j, k, l, h1, h2, h3, h4, hb, _⟩ := fourOf_is e2
        exact up_no (pt_up hp) h1 h2 h3 h4 hb
end Wv

namespace Wv
open PySem PySem.Spec PyProof.Rows L2
/-! ## what all_partings holds -/
def sideS (b : Bool) : Str := if b then "up" else "down"
def maskD (m : List Bool) : D := .tup (m.map fun b => .str (sideS b))
abbrev PI3 := List Bool × Int × Int
def itemD (x : PI3) : D := .tup [maskD x.1, .tup [.int x.2.1, .int x.2.2]]
def extB (r : List Int) (x : PI3) : List (List Bool) := (pts r x.2.1 x.2.2).map (x.1 ++ ·)
def stepP (r : List Int) (c : Int) (x : PI3) (b : Bool) : List PI3 :=
  if b then (if x.2.1 < c ∧ goodB r c x.2.2 = true then [(x.1 ++ [true], c, x.2.2)] else []) else (if c < x.2.2 ∧ goodB r x.2.1 c = true then [(x.1 ++ [false], x.2.1, c)] else [])
theorem ext_step (c : Int) (r : List Int) (x : PI3) : ([false, true].flatMap (stepP r c x)).flatMap (extB r) = extB (c :: r) x := by
  obtain ⟨m, u, v⟩ := x
  have one : ∀ (b : Bool) (u' v' : Int) (P : Prop) [Decidable P], (if P ∧ goodB r u' v' = true then [((m ++ [b], u', v') : PI3)] else []).flatMap (extB r) = (if P then (pts r u' v').map (b :: ·) else []).map (m ++ ·) := by
    intro b u' v' P _
    by_cases hP : P
    · rw [if_pos hP]
      by_cases hg : goodB r u' v' = true
      · rw [if_pos ⟨hP, hg⟩]
        simp [extB, Function.comp_def]
      · rw [if_neg fun z => hg z.2]
        have : pts r u' v' = [] := by
          rw [good_pts] at hg
          cases e : pts r u' v' with
          | nil => rfl
          | cons a l => rw [e] at hg; simp at hg
        rw [this]
        rfl
    · rw [if_neg fun z => hP z.1, if_neg hP]
      rfl
  have e1 := one false u c (c < v)
  have e2 := one true c v (u < c)
  simp only [List.flatMap_cons, List.flatMap_nil, List.append_nil, List.flatMap_append, stepP, Bool.false_eq_true, if_false, if_true] at e1 e2 ⊢
  rw [e1, e2]
  show _ = (pts (c :: r) u v).map (m ++ ·)
  rw [pts, List.map_append]
theorem ext_len {r : List Int} : ∀ {l : List PI3}, (∀ x ∈ l, goodB r x.2.1 x.2.2 = true) → l.length ≤ (l.flatMap (extB r)).length
  | [], _ => by simp
  | x :: l, h => by
    have h1 := ext_len (l := l) fun y hy => h y (by simp [hy])
    have h2 := h x (by simp)
    rw [good_pts] at h2
    have h3 : 1 ≤ (extB r x).length := by
      unfold extB
      rw [List.length_map]
      cases e : pts r x.2.1 x.2.2 with
      | nil => rw [e] at h2; simp at h2
      | cons a b => simp
    rw [List.flatMap_cons, List.length_append, List.length_cons]
    omega
theorem step_good {r : List Int} {c : Int} {x y : PI3} {b : Bool} (h : y ∈ stepP r c x b) : goodB r y.2.1 y.2.2 = true ∧ y.1.length = x.1.length + 1 ∧ (y.2.1 = x.2.1 ∨ y.2.1 = c) ∧ (y.2.2 = x.2.2 ∨ y.2.2 = c) := by
  unfold stepP at h
  split at h
  · split at h
    · rename_i k
      rw [List.mem_singleton] at h
      subst h
      exact ⟨k.2, by simp, .inr rfl, .inl rfl⟩
    · simp at h
  · split at h
    · rename_i k
      rw [List.mem_singleton] at h
      subst h
      exact ⟨k.2, by simp, .inl rfl, .inr rfl⟩
    · simp at h
theorem mask_app (m : List Bool) (b : Bool) : (D.tup ((m.map fun b => D.str (sideS b)) ++ [.str (sideS b)])) = maskD (m ++ [b]) := by
  unfold maskD
  rw [List.map_append]
  rfl
/-- what all_partings holds at a place -/
structure Held (r : List Int) (i : Nat) (rows : List PI3) : Prop where
  good : ∀ x ∈ rows, goodB (r.drop i) x.2.1 x.2.2 = true
  len : ∀ x ∈ rows, x.1.length = i
  inU : ∀ x ∈ rows, x.2.1 ∈ -1 :: r
  inV : ∀ x ∈ rows, x.2.2 ∈ 1000000001 :: r
theorem Held.nil (r : List Int) (i : Nat) : Held r i [] := ⟨by simp, by simp, by simp, by simp⟩
theorem Held.app {r : List Int} {i : Nat} {a b : List PI3} (h : Held r i a) (k : Held r i b) : Held r i (a ++ b) :=
  ⟨fun x hx => (List.mem_append.mp hx).elim (h.good x) (k.good x), fun x hx => (List.mem_append.mp hx).elim (h.len x) (k.len x), fun x hx => (List.mem_append.mp hx).elim (h.inU x) (k.inU x), fun x hx => (List.mem_append.mp hx).elim (h.inV x) (k.inV x)⟩
theorem Held.step {r : List Int} {i : Nat} {c : Int} {x : PI3} (hc : c ∈ r) (hx : x.1.length = i) (hu : x.2.1 ∈ -1 :: r) (hv : x.2.2 ∈ 1000000001 :: r) (bs : List Bool) : Held r (i + 1) (bs.flatMap (stepP (r.drop (i + 1)) c x)) := by
  have key : ∀ y ∈ bs.flatMap (stepP (r.drop (i + 1)) c x), ∃ b, y ∈ stepP (r.drop (i + 1)) c x b := fun y hy => by
    obtain ⟨b, _, h⟩ := List.mem_flatMap.mp hy
    exact ⟨b, h⟩
  refine ⟨fun y hy => ?_, fun y hy => ?_, fun y hy => ?_, fun y hy => ?_⟩ <;> obtain ⟨b, hb⟩ := key y hy <;> obtain ⟨h1, h2, h3, h4⟩ := step_good hb
  · exact h1
  · omega
  · rcases h3 with h3 | h3
    · rw [h3]; exact hu
    · rw [h3]; simp [hc]
  · rcases h4 with h4 | h4
    · rw [h4]; exact hv
    · rw [h4]; simp [hc]
theorem del_to {L L' : Lg} {p q : Addr} {c : Cell} (hp : L' p = some c) (ho : ∀ a, a ≠ p → a ≠ q → L' a = L a) (hqp : q ≠ p) (hq : L q = none) : del L' q = put L p c := by
  funext a
  by_cases h1 : a = q
  · subst h1; rw [del_same, put_ne hqp, hq]
  · rw [del_ne h1]
    by_cases h2 : a = p
    · subst h2; rw [put_same, hp]
    · rw [put_ne h2, ho a h2 h1]

/-! ## sides -/
def atB (m : List Bool) (i : Nat) : Bool := (m[i]?).getD false
def sideAt (P : List (List Bool)) (i : Nat) : Str := if P.all fun m => atB m i then "up" else if P.all fun m => !atB m i then "down" else "either"
def sidesOf (r : List Int) : Option (List Str) := if ptsR r = [] then none else some ((List.range r.length).map (sideAt (ptsR r)))
def sidesD : Option (List Str) → D
  | none => .non
  | some xs => .tup (xs.map .str)
def swapS (x : Str) : Str := if x = "up" then "down" else if x = "down" then "up" else x
theorem all_perm {α : Type} {a b : List α} (h : a.Perm b) (p : α → Bool) : a.all p = b.all p := by
  rw [Bool.eq_iff_iff, List.all_eq_true, List.all_eq_true]
  exact ⟨fun k x hx => k x (h.mem_iff.mpr hx), fun k x hx => k x (h.mem_iff.mp hx)⟩
theorem sideAt_perm {P Q : List (List Bool)} (h : P.Perm Q) (i : Nat) : sideAt P i = sideAt Q i := by
  unfold sideAt
  rw [all_perm h, all_perm h]
theorem side3 (P : List (List Bool)) (i : Nat) : sideAt P i = "up" ∨ sideAt P i = "down" ∨ sideAt P i = "either" := by
  unfold sideAt
  split
  · exact .inl rfl
  · split
    · exact .inr (.inl rfl)
    · exact .inr (.inr rfl)
theorem sideAt_swap {P Q : List (List Bool)} (hP : P ≠ []) {i j : Nat} (f : List Bool → List Bool) (hQ : Q = P.map f) (h : ∀ m ∈ P, atB (f m) i = !atB m j) : sideAt Q i = swapS (sideAt P j) := by
  have e1 : (Q.all fun m => atB m i) = P.all fun m => !atB m j := by
    rw [hQ, List.all_map, Bool.eq_iff_iff, List.all_eq_true, List.all_eq_true]
    exact ⟨fun k m hm => by rw [← h m hm]; exact k m hm, fun k m hm => by show atB (f m) i = true; rw [h m hm]; exact k m hm⟩
  have e2 : (Q.all fun m => !atB m i) = P.all fun m => atB m j := by
    rw [hQ, List.all_map, Bool.eq_iff_iff, List.all_eq_true, List.all_eq_true]
    exact ⟨fun k m hm => by have : (!atB (f m) i) = true := k m hm; rw [h m hm] at this; simpa using this, fun k m hm => by show (!atB (f m) i) = true; rw [h m hm]; simpa using k m hm⟩
  unfold sideAt
  rw [e1, e2]
  obtain ⟨m, ms, rfl⟩ : ∃ m ms, P = m :: ms := by
    cases P with
    | nil => exact (hP rfl).elim
    | cons m ms => exact ⟨m, ms, rfl⟩
  cases h1 : (m :: ms).all fun m => atB m j
  · cases h2 : (m :: ms).all fun m => !atB m j
    · decide
    · decide
  · have : ((m :: ms).all fun m => !atB m j) = false := by
      rw [List.all_cons, Bool.and_eq_true] at h1
      rw [List.all_cons, h1.1]
      rfl
    rw [this]
    decide
theorem atB_not {m : List Bool} {i : Nat} (h : i < m.length) : atB (m.map (!·)) i = !atB m i := by
  unfold atB
  rw [List.getElem?_map, List.getElem?_eq_getElem h]
  rfl
theorem atB_rev {m : List Bool} {i : Nat} (h : i < m.length) : atB (m.reverse.map (!·)) i = !atB m (m.length - 1 - i) := by
  rw [atB_not (by simpa using h)]
  unfold atB
  rw [List.getElem?_reverse h]
theorem perm_nil {α : Type} {a b : List α} (h : a.Perm b) : a = [] ↔ b = [] := ⟨fun e => by subst e; exact h.nil_eq.symm, fun e => by subst e; exact h.eq_nil⟩
theorem sides_less {r : List Int} (h : Rg r) : sidesOf (lessR r) = (sidesOf r).map fun xs => xs.map swapS := by
  have hp := pts_less h
  unfold sidesOf
  by_cases e : ptsR r = []
  · rw [if_pos e, if_pos ((perm_nil hp).mpr (by rw [e]; rfl))]; rfl
  · rw [if_neg e, if_neg (fun z => e (by have := (perm_nil hp).mp z; simpa using this))]
    show _ = some (((List.range r.length).map (sideAt (ptsR r))).map swapS)
    have hl : (lessR r).length = r.length := by unfold lessR; rw [List.length_map]
    rw [hl, List.map_map]
    congr 1
    refine List.map_congr_left fun i hi => ?_
    rw [List.mem_range] at hi
    rw [sideAt_perm hp]
    exact sideAt_swap e _ rfl fun m hm => atB_not (by rw [((mem_ptsR h).mp hm).1]; exact hi)
theorem sides_rev {r : List Int} (h : Rg r) : sidesOf r.reverse = (sidesOf r).map fun xs => (xs.map swapS).reverse := by
  have hp := pts_rev h
  unfold sidesOf
  by_cases e : ptsR r = []
  · rw [if_pos e, if_pos ((perm_nil hp).mpr (by rw [e]; rfl))]; rfl
  · rw [if_neg e, if_neg (fun z => e (by have := (perm_nil hp).mp z; simpa using this))]
    show _ = some (((List.range r.length).map (sideAt (ptsR r))).map swapS).reverse
    congr 1
    apply List.ext_getElem?
    intro i
    by_cases hi : i < r.length
    · rw [List.getElem?_map, List.getElem?_range (by simpa using hi), List.getElem?_reverse (by simpa using hi), List.getElem?_map, List.getElem?_map, List.length_map, List.length_map, List.length_range, List.getElem?_range (by omega)]
      show some _ = some _
      congr 1
      rw [sideAt_perm hp]
      refine sideAt_swap e _ rfl fun m hm => ?_
      have hl := ((mem_ptsR h).mp hm).1
      rw [atB_rev (by omega), hl]
    · rw [List.getElem?_eq_none (by simpa using hi), List.getElem?_eq_none (by simpa using hi)]
/-- rows whose cards stand alike -/
theorem alike_all {f : Int → Int} {r : List Int} (h : Rg r) (h2 : Rg (r.map f)) (hf : ∀ x ∈ r, ∀ y ∈ r, (x < y ↔ f x < f y)) : ptsR (r.map f) = ptsR r ∧ sidesOf (r.map f) = sidesOf r ∧ fourOf (r.map f) = fourOf r := by
  have e := ptsR_alike h h2 hf
  refine ⟨e, ?_, ?_⟩
  · unfold sidesOf
    rw [e, List.length_map]
  · refine fourOf_congr (by simp) fun i j k l h1 h2 h3 h4 => ?_
    rw [List.length_map] at h4
    have g : ∀ i, i < r.length → at0 (r.map f) i = f (at0 r i) ∧ at0 r i ∈ r := fun i hi => by
      refine ⟨at0_eq ?_, List.mem_of_getElem? (at0_get hi)⟩
      rw [List.getElem?_map, at0_get hi]
      rfl
    have gi := g i (by omega)
    have gj := g j (by omega)
    have gk := g k (by omega)
    have gl := g l (by omega)
    rw [gi.1, gj.1, gk.1, gl.1]
    unfold Bar
    rw [hf _ gj.2 _ gi.2, hf _ gi.2 _ gl.2, hf _ gl.2 _ gk.2, hf _ gk.2 _ gl.2, hf _ gl.2 _ gi.2, hf _ gi.2 _ gj.2]
theorem four_less {r : List Int} : fourOf (lessR r) = fourOf r := by
  refine fourOf_congr (by unfold lessR; simp) fun i j k l h1 h2 h3 h4 => ?_
  have hl : (lessR r).length = r.length := by unfold lessR; rw [List.length_map]
  rw [hl] at h4
  have g : ∀ i, i < r.length → at0 (lessR r) i = 1000000000 - at0 r i := fun i hi => by
    refine at0_eq ?_
    unfold lessR
    rw [List.getElem?_map, at0_get hi]
    rfl
  rw [g i (by omega), g j (by omega), g k (by omega), g l (by omega)]
  unfold Bar
  constructor
  · rintro (h | h)
    · exact .inr ⟨by omega, by omega, by omega⟩
    · exact .inl ⟨by omega, by omega, by omega⟩
  · rintro (h | h)
    · exact .inr ⟨by omega, by omega, by omega⟩
    · exact .inl ⟨by omega, by omega, by omega⟩
theorem bar_rev {a b c d : Int} (h : Bar a b c d) : Bar d c b a := h.elim (fun h => .inr ⟨h.1, h.2.1, h.2.2⟩) fun h => .inl ⟨h.1, h.2.1, h.2.2⟩
/-- some of the cards -/
theorem Shuf.sub {r a b : List Int} (h : Shuf r a b) : ∀ {s : List Int}, s.Sublist r → ∃ a' b', Shuf s a' b' ∧ a'.Sublist a ∧ b'.Sublist b := by
  induction h with
  | nil =>
    intro s hs
    cases hs
    exact ⟨[], [], .nil, .slnil, .slnil⟩
  | up c _ ih =>
    intro s hs
    cases hs with
    | cons _ hs =>
      obtain ⟨a', b', x, y, z⟩ := ih hs
      exact ⟨a', b', x, y.cons _, z⟩
    | cons_cons _ hs =>
      obtain ⟨a', b', x, y, z⟩ := ih hs
      exact ⟨_, _, .up c x, y.cons_cons _, z⟩
  | dn c _ ih =>
    intro s hs
    cases hs with
    | cons _ hs =>
      obtain ⟨a', b', x, y, z⟩ := ih hs
      exact ⟨a', b', x, y, z.cons _⟩
    | cons_cons _ hs =>
      obtain ⟨a', b', x, y, z⟩ := ih hs
      exact ⟨_, _, .dn c x, y, z.cons_cons _⟩
theorem woven_sub {r s : List Int} (h : Rg r) (hs : s.Sublist r) (w : wovenB r = true) : wovenB s = true := by
  obtain ⟨a, b, x, p, q⟩ := (woven_iff h).mp w
  obtain ⟨a', b', x', y, z⟩ := x.sub hs
  exact (woven_iff fun x hx => h x (hs.subset hx)).mpr ⟨a', b', x', p.sublist y, q.sublist z⟩
end Wv

namespace Wv
open PySem PySem.Spec PyProof.Rows L2

/-! # the greatest worth that can stay -/
def best : List Int → List Int → Int → Int → Int
  | c :: r, w :: ws, u, v => max (max (best r ws u v) (if c < v then w + best r ws u c else best r ws u v)) (if u < c then w + best r ws c v else best r ws u v)
  | [], _, _, _ => 0
  | _ :: _, [], _, _ => 0
theorem best_ge : ∀ {r ws : List Int} {m : List Bool} {u v : Int}, m.length = r.length → ws.length = r.length → goodB (upsM r m) u v = true → (upsM ws m).sum ≤ best r ws u v
  | [], ws, m, u, v, h1, h2, _ => by
    cases ws with
    | nil => simp [upsM, best]
    | cons w ws => simp at h2
  | c :: r, [], m, u, v, _, h2, _ => by simp at h2
  | c :: r, w :: ws, [], u, v, h1, _, _ => by simp at h1
  | c :: r, w :: ws, false :: m, u, v, h1, h2, h => by
    have ih := best_ge (r := r) (ws := ws) (m := m) (u := u) (v := v) (by simpa using h1) (by simpa using h2) (by simpa [upsM] using h)
    simp only [upsM, best, Bool.false_eq_true, if_false]
    omega
  | c :: r, w :: ws, true :: m, u, v, h1, h2, h => by
    have e1 : m.length = r.length := by simpa using h1
    have e2 : ws.length = r.length := by simpa using h2
    simp only [upsM, if_true, goodB, Bool.or_eq_true, Bool.and_eq_true, decide_eq_true_iff] at h
    simp only [upsM, best, if_true, List.sum_cons]
    rcases h with ⟨k, h⟩ | ⟨k, h⟩
    · have ih := best_ge e1 e2 h
      rw [if_pos k]
      omega
    · have ih := best_ge e1 e2 h
      rw [if_pos k]
      omega
theorem best_ex : ∀ (r ws : List Int) (u v : Int), ws.length = r.length → ∃ m : List Bool, m.length = r.length ∧ goodB (upsM r m) u v = true ∧ (upsM ws m).sum = best r ws u v
  | [], ws, u, v, h => ⟨[], rfl, rfl, by cases ws <;> simp [upsM, best]⟩
  | c :: r, [], u, v, h => by simp at h
  | c :: r, w :: ws, u, v, h => by
    have e2 : ws.length = r.length := by simpa using h
    have skip : best (c :: r) (w :: ws) u v = best r ws u v → ∃ m : List Bool, m.length = (c :: r).length ∧ goodB (upsM (c :: r) m) u v = true ∧ (upsM (w :: ws) m).sum = best (c :: r) (w :: ws) u v := fun e => by
      obtain ⟨m, a, b, d⟩ := best_ex r ws u v e2
      exact ⟨false :: m, by simp [a], by simpa [upsM] using b, by rw [e]; simpa [upsM] using d⟩
    have dn : c < v → best (c :: r) (w :: ws) u v = w + best r ws u c → ∃ m : List Bool, m.length = (c :: r).length ∧ goodB (upsM (c :: r) m) u v = true ∧ (upsM (w :: ws) m).sum = best (c :: r) (w :: ws) u v := fun k e => by
      obtain ⟨m, a, b, d⟩ := best_ex r ws u c e2
      exact ⟨true :: m, by simp [a], by simp [upsM, goodB, k, b], by rw [e]; simp [upsM, d]⟩
    have up : u < c → best (c :: r) (w :: ws) u v = w + best r ws c v → ∃ m : List Bool, m.length = (c :: r).length ∧ goodB (upsM (c :: r) m) u v = true ∧ (upsM (w :: ws) m).sum = best (c :: r) (w :: ws) u v := fun k e => by
      obtain ⟨m, a, b, d⟩ := best_ex r ws c v e2
      exact ⟨true :: m, by simp [a], by simp [upsM, goodB, k, b], by rw [e]; simp [upsM, d]⟩
    have hb : best (c :: r) (w :: ws) u v = max (max (best r ws u v) (if c < v then w + best r ws u c else best r ws u v)) (if u < c then w + best r ws c v else best r ws u v) := rfl
    by_cases k1 : c < v
    · by_cases k2 : u < c
      · rw [if_pos k1, if_pos k2] at hb
        by_cases x : w + best r ws c v ≤ max (best r ws u v) (w + best r ws u c)
        · by_cases y : w + best r ws u c ≤ best r ws u v
          · exact skip (by omega)
          · exact dn k1 (by omega)
        · exact up k2 (by omega)
      · rw [if_pos k1, if_neg k2] at hb
        by_cases y : w + best r ws u c ≤ best r ws u v
        · exact skip (by omega)
        · exact dn k1 (by omega)
    · by_cases k2 : u < c
      · rw [if_neg k1, if_pos k2] at hb
        by_cases x : w + best r ws c v ≤ best r ws u v
        · exact skip (by omega)
        · exact up k2 (by omega)
      · rw [if_neg k1, if_neg k2] at hb
        exact skip (by omega)
theorem best_tl {c w : Int} {r ws : List Int} {u v : Int} : best r ws u v ≤ best (c :: r) (w :: ws) u v := by
  show _ ≤ max (max _ _) _
  omega

/-! ## the last numbers behind some cards -/
def stp (c : Int) (a b : Int × Int) : Prop := (a.1 < c ∧ b = (c, a.2)) ∨ (c < a.2 ∧ b = (a.1, c))
def reach : List Int → Int × Int → Int × Int → Prop
  | [], a, b => a = b
  | c :: r, a, b => ∃ m, stp c a m ∧ reach r m b
theorem reach_snoc {c : Int} : ∀ {r : List Int} {a b : Int × Int}, reach (r ++ [c]) a b ↔ ∃ m, reach r a m ∧ stp c m b
  | [], a, b => by
    constructor
    · rintro ⟨m, h, e⟩
      have e2 : m = b := e
      subst e2
      exact ⟨a, rfl, h⟩
    · rintro ⟨m, e, h⟩
      have e2 : a = m := e
      subst e2
      exact ⟨b, h, rfl⟩
  | d :: r, a, b => by
    constructor
    · rintro ⟨m, h, e⟩
      obtain ⟨x, h1, h2⟩ := reach_snoc.mp e
      exact ⟨x, ⟨m, h, h1⟩, h2⟩
    · rintro ⟨x, ⟨m, h, h1⟩, h2⟩
      exact ⟨m, h, reach_snoc.mpr ⟨x, h1, h2⟩⟩
theorem good_app {s : List Int} : ∀ {r : List Int} {a : Int × Int}, goodB (r ++ s) a.1 a.2 = true ↔ ∃ m, reach r a m ∧ goodB s m.1 m.2 = true
  | [], a => ⟨fun h => ⟨a, rfl, h⟩, fun ⟨m, e, h⟩ => by have e2 : a = m := e; subst e2; exact h⟩
  | c :: r, a => by
    simp only [List.cons_append, goodB, Bool.or_eq_true, Bool.and_eq_true, decide_eq_true_iff]
    constructor
    · rintro (⟨k, h⟩ | ⟨k, h⟩)
      · obtain ⟨m, h1, h2⟩ := (good_app (r := r) (a := (c, a.2))).mp h
        exact ⟨m, ⟨_, .inl ⟨k, rfl⟩, h1⟩, h2⟩
      · obtain ⟨m, h1, h2⟩ := (good_app (r := r) (a := (a.1, c))).mp h
        exact ⟨m, ⟨_, .inr ⟨k, rfl⟩, h1⟩, h2⟩
    · rintro ⟨m, ⟨x, (⟨k, rfl⟩ | ⟨k, rfl⟩), h1⟩, h2⟩
      · exact .inl ⟨k, (good_app (r := r) (a := (c, a.2))).mpr ⟨m, h1, h2⟩⟩
      · exact .inr ⟨k, (good_app (r := r) (a := (a.1, c))).mpr ⟨m, h1, h2⟩⟩

/-! ## what is kept -/
/-- the mask of the places that are not in g -/
def keepM (g : List Int) (n : Nat) : List Bool := (List.range n).map fun j : Nat => !decide ((j : Int) ∈ g)
theorem keepM_len (g : List Int) (n : Nat) : (keepM g n).length = n := by unfold keepM; rw [List.length_map, List.length_range]
theorem keepM_succ (g : List Int) (n : Nat) : keepM g (n + 1) = keepM g n ++ [!decide ((n : Int) ∈ g)] := by
  unfold keepM
  rw [List.range_succ, List.map_append]
  rfl
theorem keepM_congr {g h : List Int} {n : Nat} (e : ∀ j : Nat, j < n → ((j : Int) ∈ g ↔ (j : Int) ∈ h)) : keepM g n = keepM h n := by
  unfold keepM
  refine List.map_congr_left fun j hj => ?_
  rw [List.mem_range] at hj
  simp only [e j hj]
theorem keepM_get {g : List Int} {n j : Nat} (h : j < n) : (keepM g n)[j]? = some (!decide ((j : Int) ∈ g)) := by
  unfold keepM
  rw [List.getElem?_map, List.getElem?_range h]
  rfl
theorem upsM_len : ∀ {r : List Int} {m : List Bool}, m.length = r.length → (upsM r m).length = m.count true
  | [], [], _ => rfl
  | [], _ :: _, h => by simp at h
  | _ :: _, [], h => by simp at h
  | c :: r, b :: m, h => by
    have ih := upsM_len (r := r) (m := m) (by simpa using h)
    cases b <;> simp [upsM, ih]
theorem keepM_count : ∀ {n : Nat} {g : List Int}, g.Nodup → (∀ x ∈ g, 0 ≤ x ∧ x < (n : Int)) → (keepM g n).count true + g.length = n
  | 0, g, _, h => by
    cases g with
    | nil => rfl
    | cons x g => have := h x (by simp); omega
  | n + 1, g, hn, h => by
    rw [keepM_succ, List.count_append]
    by_cases e : (n : Int) ∈ g
    · have ih := keepM_count (n := n) (g := g.erase (n : Int)) (hn.erase _) fun x hx => by
        have h1 := h x (List.mem_of_mem_erase hx)
        have h2 : x ≠ n := fun z => by subst z; exact hn.not_mem_erase hx
        omega
      have e2 : keepM g n = keepM (g.erase (n : Int)) n := keepM_congr fun j hj => by
        rw [List.mem_erase_of_ne]
        omega
      rw [← e2, List.length_erase_of_mem e] at ih
      have : 0 < g.length := List.length_pos_of_mem e
      simp [e]
      omega
    · have ih := keepM_count (n := n) (g := g) hn fun x hx => by
        have h1 := h x hx
        have h2 : x ≠ n := fun z => by subst z; exact e hx
        omega
      simp [e]
      omega
theorem upsM_snoc {r : List Int} {m : List Bool} {c : Int} {b : Bool} (h : m.length = r.length) : upsM (r ++ [c]) (m ++ [b]) = if b then upsM r m ++ [c] else upsM r m := by
  rw [upsM_append h]
  cases b <;> simp [upsM]
theorem take_snoc {r : List Int} {i : Nat} {c : Int} (h : r[i]? = some c) : r.take (i + 1) = r.take i ++ [c] := by
  rw [List.take_add_one, h]
  rfl
theorem drop_cons {r : List Int} {i : Nat} {c : Int} (h : r[i]? = some c) : r.drop i = c :: r.drop (i + 1) := by
  have hi : i < r.length := (List.getElem?_eq_some_iff.mp h).1
  rw [List.drop_eq_getElem_cons hi]
  rw [List.getElem?_eq_getElem hi] at h
  rw [Option.some.inj h]

/-! ## the cards that leave, one by one -/
def kC (r : List Int) (g : List Int) (i : Nat) : List Int := upsM (r.take i) (keepM g i)
theorem kC_succ {r g : List Int} {i : Nat} {c : Int} (h : r[i]? = some c) : kC r g (i + 1) = if (i : Int) ∈ g then kC r g i else kC r g i ++ [c] := by
  have hi : i < r.length := (List.getElem?_eq_some_iff.mp h).1
  unfold kC
  rw [take_snoc h, keepM_succ, upsM_snoc (by rw [keepM_len, List.length_take]; omega)]
  by_cases e : (i : Int) ∈ g <;> simp [e]
theorem kC_congr {r g h : List Int} {i : Nat} (e : ∀ j : Nat, j < i → ((j : Int) ∈ g ↔ (j : Int) ∈ h)) : kC r g i = kC r h i := by
  unfold kC
  rw [keepM_congr e]
abbrev bst (r ws : List Int) : Int := best r ws (-1) 1000000001
structure Lv (r ws : List Int) (i : Nat) (g : List Int) (l : List (Int × Int)) : Prop where
  ris : g.Pairwise (· < ·)
  rng : ∀ x ∈ g, 0 ≤ x ∧ x < (i : Int)
  ne : l ≠ []
  mem : ∀ p, p ∈ l ↔ reach (kC r g i) (-1, 1000000001) p ∧ (kC ws g i).sum + best (r.drop i) (ws.drop i) p.1 p.2 = bst r ws
  first : ∀ j : Nat, j < i → (j : Int) ∉ g → ∀ m : List Bool, m.length = r.length - (j + 1) → goodB (kC r g j ++ upsM (r.drop (j + 1)) m) (-1) 1000000001 = true → (kC ws g j).sum + (upsM (ws.drop (j + 1)) m).sum < bst r ws
theorem Lv.start (r ws : List Int) : Lv r ws 0 [] [(-1, 1000000001)] := by
  refine ⟨by simp, by simp, by simp, fun p => ?_, fun j h => by omega⟩
  have e : ∀ x : List Int, kC x [] 0 = [] := fun x => by simp [kC, upsM]
  rw [e, e]
  simp only [List.mem_singleton, reach, List.sum_nil, List.drop_zero, Int.zero_add]
  constructor
  · rintro rfl; exact ⟨rfl, rfl⟩
  · rintro ⟨h, _⟩; exact h.symm
/-- no more than the best can stay -/
theorem top_le {r ws : List Int} (hl : ws.length = r.length) {g : List Int} {i : Nat} (hi : i ≤ r.length) {p : Int × Int} (h : reach (kC r g i) (-1, 1000000001) p) : (kC ws g i).sum + best (r.drop i) (ws.drop i) p.1 p.2 ≤ bst r ws := by
  obtain ⟨m, h1, h2, h3⟩ := best_ex (r.drop i) (ws.drop i) p.1 p.2 (by rw [List.length_drop, List.length_drop, hl])
  have hk : (keepM g i).length = (r.take i).length := by rw [keepM_len, List.length_take]; omega
  have hk2 : (keepM g i).length = (ws.take i).length := by rw [keepM_len, List.length_take]; omega
  have e1 : upsM r (keepM g i ++ m) = kC r g i ++ upsM (r.drop i) m := by
    conv => lhs; rw [← List.take_append_drop i r]
    exact upsM_append hk
  have e2 : upsM ws (keepM g i ++ m) = kC ws g i ++ upsM (ws.drop i) m := by
    conv => lhs; rw [← List.take_append_drop i ws]
    exact upsM_append hk2
  have := best_ge (r := r) (ws := ws) (m := keepM g i ++ m) (u := -1) (v := 1000000001) (by rw [List.length_append, keepM_len, h1, List.length_drop]; omega) hl (by
    rw [e1]
    exact good_app.mpr ⟨p, h, h2⟩)
  rw [e2, List.sum_append, h3] at this
  exact this
theorem Lv.gone {r ws : List Int} (hl : ws.length = r.length) {g : List Int} {i : Nat} {l l' : List (Int × Int)} (h : Lv r ws i g l) {c w : Int} (hc : r[i]? = some c) (hw : ws[i]? = some w) (ne : l' ≠ [])
    (hm : ∀ p, p ∈ l' ↔ p ∈ l ∧ best (r.drop i) (ws.drop i) p.1 p.2 = best (r.drop (i + 1)) (ws.drop (i + 1)) p.1 p.2) : Lv r ws (i + 1) (g ++ [(i : Int)]) l' := by
  have hi : i < r.length := (List.getElem?_eq_some_iff.mp hc).1
  have hlow : ∀ j : Nat, j < i + 1 → ∀ k : Nat, k ≤ i → j < k → ((j : Int) ∈ g ++ [(i : Int)] ↔ (j : Int) ∈ g) := fun j _ k hk hj => by
    rw [List.mem_append, List.mem_singleton]
    exact ⟨fun z => z.elim id fun e => by omega, .inl⟩
  have ek : ∀ (x : List Int) (k : Nat), k ≤ i → kC x (g ++ [(i : Int)]) k = kC x g k := fun x k hk => kC_congr fun j hj => hlow j (by omega) k hk hj
  have e1 : ∀ {x : List Int} {d : Int}, x[i]? = some d → kC x (g ++ [(i : Int)]) (i + 1) = kC x g i := fun {x d} e => by
    rw [kC_succ e, if_pos (by simp), ek x i (Nat.le_refl _)]
  refine ⟨?_, fun x hx => ?_, ne, fun p => ?_, fun j hj hn m => ?_⟩
  · rw [List.pairwise_append]
    refine ⟨h.ris, by simp, fun a ha b hb => ?_⟩
    rw [List.mem_singleton] at hb
    subst hb
    exact (h.rng a ha).2
  · rcases List.mem_append.mp hx with hx | hx
    · have := h.rng x hx; omega
    · rw [List.mem_singleton] at hx; omega
  · rw [hm, h.mem, e1 hc, e1 hw]
    constructor
    · rintro ⟨⟨a, b⟩, e⟩
      exact ⟨a, by rw [← e]; exact b⟩
    · rintro ⟨a, b⟩
      have t := top_le hl (Nat.le_of_lt hi) a
      have t2 : best (r.drop (i + 1)) (ws.drop (i + 1)) p.1 p.2 ≤ best (r.drop i) (ws.drop i) p.1 p.2 := by
        rw [drop_cons hc, drop_cons hw]
        exact best_tl
      exact ⟨⟨a, by omega⟩, by omega⟩
  · have hj2 : j < i := by
      apply Classical.byContradiction
      intro z
      have : j = i := by omega
      subst this
      exact hn (by simp)
    rw [ek r j (by omega), ek ws j (by omega)]
    exact h.first j hj2 (fun z => hn (by simp [z])) m
theorem Lv.stay {r ws : List Int} (hl : ws.length = r.length) {g : List Int} {i : Nat} {l l' : List (Int × Int)} (h : Lv r ws i g l) {c w : Int} (hc : r[i]? = some c) (hw : ws[i]? = some w)
    (hno : ∀ p ∈ l, best (r.drop i) (ws.drop i) p.1 p.2 ≠ best (r.drop (i + 1)) (ws.drop (i + 1)) p.1 p.2)
    (hm : ∀ p, p ∈ l' ↔ ∃ q ∈ l, stp c q p ∧ w + best (r.drop (i + 1)) (ws.drop (i + 1)) p.1 p.2 = best (r.drop i) (ws.drop i) q.1 q.2) : Lv r ws (i + 1) g l' := by
  have hi : i < r.length := (List.getElem?_eq_some_iff.mp hc).1
  have hg : (i : Int) ∉ g := fun z => by have := h.rng _ z; omega
  have e1 : ∀ {x : List Int} {d : Int}, x[i]? = some d → kC x g (i + 1) = kC x g i ++ [d] := fun {x d} e => by
    rw [kC_succ e, if_neg hg]
  have hd : best (r.drop i) (ws.drop i) = best (c :: r.drop (i + 1)) (w :: ws.drop (i + 1)) := by rw [drop_cons hc, drop_cons hw]
  refine ⟨h.ris, fun x hx => by have := h.rng x hx; omega, ?_, fun p => ?_, fun j hj hn m hml hgd => ?_⟩
  · obtain ⟨q, hq⟩ := List.exists_mem_of_ne_nil _ h.ne
    have hne := hno q hq
    have hb : best (r.drop i) (ws.drop i) q.1 q.2 = max (max (best (r.drop (i + 1)) (ws.drop (i + 1)) q.1 q.2) (if c < q.2 then w + best (r.drop (i + 1)) (ws.drop (i + 1)) q.1 c else best (r.drop (i + 1)) (ws.drop (i + 1)) q.1 q.2)) (if q.1 < c then w + best (r.drop (i + 1)) (ws.drop (i + 1)) c q.2 else best (r.drop (i + 1)) (ws.drop (i + 1)) q.1 q.2) := by
      rw [hd]; rfl
    have hx : (q.1 < c ∧ w + best (r.drop (i + 1)) (ws.drop (i + 1)) c q.2 = best (r.drop i) (ws.drop i) q.1 q.2) ∨ (c < q.2 ∧ w + best (r.drop (i + 1)) (ws.drop (i + 1)) q.1 c = best (r.drop i) (ws.drop i) q.1 q.2) := by
      by_cases k1 : c < q.2 <;> by_cases k2 : q.1 < c
      · rw [if_pos k1, if_pos k2] at hb; omega
      · rw [if_pos k1, if_neg k2] at hb; omega
      · rw [if_neg k1, if_pos k2] at hb; omega
      · rw [if_neg k1, if_neg k2] at hb; omega
    intro z
    rcases hx with ⟨k, e⟩ | ⟨k, e⟩
    · have := (hm (c, q.2)).mpr ⟨q, hq, .inl ⟨k, rfl⟩, e⟩
      rw [z] at this; simp at this
    · have := (hm (q.1, c)).mpr ⟨q, hq, .inr ⟨k, rfl⟩, e⟩
      rw [z] at this; simp at this
  · rw [hm, e1 hc, e1 hw, reach_snoc, List.sum_append, List.sum_singleton]
    constructor
    · rintro ⟨q, hq, s, e⟩
      obtain ⟨a, b⟩ := (h.mem q).mp hq
      exact ⟨⟨q, a, s⟩, by omega⟩
    · rintro ⟨⟨q, a, s⟩, b⟩
      have t := top_le hl (Nat.le_of_lt hi) a
      have t2 : w + best (r.drop (i + 1)) (ws.drop (i + 1)) p.1 p.2 ≤ best (r.drop i) (ws.drop i) q.1 q.2 := by
        rw [hd]
        show _ ≤ max (max _ _) _
        rcases s with ⟨k, rfl⟩ | ⟨k, rfl⟩
        · rw [if_pos k]
          show w + best (r.drop (i + 1)) (ws.drop (i + 1)) c q.2 ≤ _
          omega
        · rw [if_pos k]
          show w + best (r.drop (i + 1)) (ws.drop (i + 1)) q.1 c ≤ _
          omega
      exact ⟨q, (h.mem q).mpr ⟨a, by omega⟩, s, by omega⟩
  · by_cases hj2 : j < i
    · exact h.first j hj2 hn m hml hgd
    · have : j = i := by omega
      subst this
      obtain ⟨q, a, b⟩ := (good_app (r := kC r g j) (a := (-1, 1000000001))).mp hgd
      have t := top_le hl (Nat.le_of_lt hi) a
      have t2 := best_ge (r := r.drop (j + 1)) (ws := ws.drop (j + 1)) (m := m) (by rw [List.length_drop]; exact hml) (by rw [List.length_drop, List.length_drop, hl]) b
      have t3 : best (r.drop (j + 1)) (ws.drop (j + 1)) q.1 q.2 ≤ best (r.drop j) (ws.drop j) q.1 q.2 := by rw [hd]; exact best_tl
      apply Classical.byContradiction
      intro z
      exact hno q ((h.mem q).mpr ⟨a, by omega⟩) (by omega)
/-- a lot that can leave so that the greatest worth stays, the first of as few -/
structure Lot (r ws : List Int) (g : List Int) : Prop where
  ris : g.Pairwise (· < ·)
  rng : ∀ x ∈ g, 0 ≤ x ∧ x < (r.length : Int)
  good : wovenB (upsM r (keepM g r.length)) = true
  sum : (upsM ws (keepM g r.length)).sum = bst r ws
  first : ∀ j : Nat, j < r.length → (j : Int) ∉ g → ∀ m : List Bool, m.length = r.length - (j + 1) → goodB (kC r g j ++ upsM (r.drop (j + 1)) m) (-1) 1000000001 = true → (kC ws g j).sum + (upsM (ws.drop (j + 1)) m).sum < bst r ws
theorem Lv.lot {r ws : List Int} (hl : ws.length = r.length) {g : List Int} {l : List (Int × Int)} (h : Lv r ws r.length g l) : Lot r ws g := by
  obtain ⟨p, hp⟩ := List.exists_mem_of_ne_nil _ h.ne
  obtain ⟨a, b⟩ := (h.mem p).mp hp
  have e1 : kC r g r.length = upsM r (keepM g r.length) := by unfold kC; rw [List.take_length]
  have e2 : kC ws g r.length = upsM ws (keepM g r.length) := by unfold kC; rw [← hl, List.take_length]
  refine ⟨h.ris, h.rng, ?_, ?_, h.first⟩
  · rw [← e1]
    have := (good_app (r := kC r g r.length) (s := []) (a := (-1, 1000000001))).mpr ⟨p, a, rfl⟩
    rw [List.append_nil] at this
    exact this
  · rw [← e2]
    rw [List.drop_length] at b
    have : best [] (ws.drop r.length) p.1 p.2 = 0 := rfl
    omega

/-! ## all worths one -/
def ones (n : Nat) : List Int := List.replicate n 1
abbrev W (r : List Int) : Int := bst r (ones r.length)
theorem ones_len (n : Nat) : (ones n).length = n := List.length_replicate
theorem ones_sum : ∀ {n : Nat} {m : List Bool}, m.length = n → (upsM (ones n) m).sum = (m.count true : Nat)
  | 0, [], _ => rfl
  | 0, _ :: _, h => by simp at h
  | _ + 1, [], h => by simp at h
  | n + 1, b :: m, h => by
    have ih := ones_sum (n := n) (m := m) (by simpa using h)
    have e : ones (n + 1) = 1 :: ones n := rfl
    rw [e]
    cases b
    · simpa [upsM] using ih
    · simp [upsM, ih]
      omega
theorem sub_mask : ∀ {s r : List Int}, s.Sublist r → ∃ m : List Bool, m.length = r.length ∧ upsM r m = s := by
  intro s r h
  induction h with
  | slnil => exact ⟨[], rfl, rfl⟩
  | cons a _ ih =>
    obtain ⟨m, h1, h2⟩ := ih
    exact ⟨false :: m, by simp [h1], by simpa [upsM] using h2⟩
  | cons_cons a _ ih =>
    obtain ⟨m, h1, h2⟩ := ih
    exact ⟨true :: m, by simp [h1], by simp [upsM, h2]⟩
theorem mask_sub : ∀ (r : List Int) (m : List Bool), (upsM r m).Sublist r
  | [], m => by cases m <;> exact .slnil
  | c :: r, [] => by simp [upsM]
  | c :: r, b :: m => by
    cases b
    · simp only [upsM, Bool.false_eq_true, if_false]
      exact (mask_sub r m).cons c
    · simp only [upsM, if_true]
      exact (mask_sub r m).cons_cons c
theorem W_ge {s r : List Int} (h : s.Sublist r) (w : wovenB s = true) : (s.length : Int) ≤ W r := by
  obtain ⟨m, h1, rfl⟩ := sub_mask h
  have := best_ge (r := r) (ws := ones r.length) h1 (ones_len _) w
  rw [ones_sum h1] at this
  rw [upsM_len h1]
  exact this
theorem W_ex (r : List Int) : ∃ s, s.Sublist r ∧ wovenB s = true ∧ (s.length : Int) = W r := by
  obtain ⟨m, h1, h2, h3⟩ := best_ex r (ones r.length) (-1) 1000000001 (ones_len _)
  refine ⟨upsM r m, mask_sub r m, h2, ?_⟩
  rw [ones_sum h1] at h3
  rw [upsM_len h1]
  exact h3
theorem W_le (r : List Int) : W r ≤ r.length := by
  obtain ⟨s, h1, _, h3⟩ := W_ex r
  have := h1.length_le
  omega
theorem W_sub {s r : List Int} (h : s.Sublist r) : W s ≤ W r := by
  obtain ⟨t, h1, h2, h3⟩ := W_ex s
  have := W_ge (h1.trans h) h2
  omega
theorem lot_len {r g : List Int} (h : Lot r (ones r.length) g) : (g.length : Int) = r.length - W r := by
  have h1 := keepM_count (h.ris.imp fun {a b} h e => by omega) h.rng
  have h2 := h.sum
  rw [ones_sum (keepM_len _ _)] at h2
  have : W r = bst r (ones r.length) := rfl
  omega
theorem lot_less {r g : List Int} (h : Lot r (ones r.length) g) {g' : List Int} (hn : g'.Nodup) (hr : ∀ x ∈ g', 0 ≤ x ∧ x < (r.length : Int)) (hl : g'.length < g.length) : wovenB (upsM r (keepM g' r.length)) = false := by
  cases e : wovenB (upsM r (keepM g' r.length)) with
  | false => rfl
  | true =>
    have h1 := W_ge (mask_sub r _) e
    have h2 := keepM_count hn hr
    have h3 := lot_len h
    rw [upsM_len (keepM_len _ _)] at h1
    omega
theorem kC_split {r g : List Int} {j : Nat} {c : Int} (hc : r[j]? = some c) (hg : (j : Int) ∈ g) : ∃ m : List Bool, m.length = r.length - (j + 1) ∧ ∀ x : List Int, x.length = r.length → upsM x (keepM g r.length) = kC x g j ++ upsM (x.drop (j + 1)) m := by
  have hj : j < r.length := (List.getElem?_eq_some_iff.mp hc).1
  refine ⟨(keepM g r.length).drop (j + 1), by rw [List.length_drop, keepM_len], fun x hx => ?_⟩
  have e1 : keepM g r.length = keepM g (j + 1) ++ (keepM g r.length).drop (j + 1) := by
    conv => lhs; rw [← List.take_append_drop (j + 1) (keepM g r.length)]
    congr 1
    unfold keepM
    rw [← List.map_take, List.take_range, Nat.min_eq_left (by omega)]
  have hxj : x[j]? = some (x[j]'(by omega)) := List.getElem?_eq_getElem _
  conv => lhs; rw [e1, ← List.take_append_drop (j + 1) x]
  rw [upsM_append (by rw [keepM_len, List.length_take]; omega)]
  congr 1
  have := kC_succ (r := x) (g := g) hxj
  rw [if_pos hg] at this
  exact this
/-- no lot ahead of it -/
theorem lot_first {r g : List Int} (h : Lot r (ones r.length) g) {g' : List Int} (hn : g'.Nodup) (hr : ∀ x ∈ g', 0 ≤ x ∧ x < (r.length : Int)) (hl : g'.length = g.length) {j : Nat} (hj : j < r.length) (h1 : (j : Int) ∉ g) (h2 : (j : Int) ∈ g') (h3 : ∀ i : Nat, i < j → ((i : Int) ∈ g ↔ (i : Int) ∈ g')) : wovenB (upsM r (keepM g' r.length)) = false := by
  cases e : wovenB (upsM r (keepM g' r.length)) with
  | false => rfl
  | true =>
    have hc : r[j]? = some (r[j]'hj) := List.getElem?_eq_getElem _
    obtain ⟨m, hm, hs⟩ := kC_split hc h2
    have ea := hs r rfl
    have eb := hs (ones r.length) (ones_len _)
    rw [kC_congr (fun i hi => (h3 i hi).symm)] at ea eb
    rw [ea] at e
    have lt := h.first j hj h1 m hm e
    have k1 := keepM_count hn hr
    have k2 := lot_len h
    have k3 := ones_sum (keepM_len g' r.length)
    rw [eb, List.sum_append] at k3
    have : W r = bst r (ones r.length) := rfl
    omega

/-! ## a card less -/
theorem sub_less {s A B : List Int} {c : Int} (h : s.Sublist (A ++ c :: B)) : ∃ t : List Int, t.Sublist s ∧ t.Sublist (A ++ B) ∧ s.length ≤ t.length + 1 := by
  obtain ⟨s1, s2, rfl, h1, h2⟩ := List.sublist_append_iff.mp h
  cases h2 with
  | cons _ h2 => exact ⟨s1 ++ s2, List.Sublist.refl _, h1.append h2, by omega⟩
  | cons_cons _ h2 =>
    rename_i t2
    refine ⟨s1 ++ t2, (List.Sublist.refl s1).append (List.sublist_cons_self _ _), h1.append h2, ?_⟩
    simp
    omega
theorem W_less {A B : List Int} {c : Int} (hr : Rg (A ++ c :: B)) : W (A ++ c :: B) ≤ W (A ++ B) + 1 ∧ W (A ++ B) ≤ W (A ++ c :: B) := by
  refine ⟨?_, W_sub ((List.Sublist.refl A).append (List.sublist_cons_self _ _))⟩
  obtain ⟨s, h1, h2, h3⟩ := W_ex (A ++ c :: B)
  obtain ⟨t, t1, t2, t3⟩ := sub_less h1
  have hs : Rg s := fun x hx => hr x (h1.subset hx)
  have := W_ge t2 (woven_sub hs t1 h2)
  omega
theorem split_at {r : List Int} {i : Nat} {c : Int} (h : r[i]? = some c) : r = r.take i ++ c :: r.drop (i + 1) := by
  conv => lhs; rw [← List.take_append_drop i r, drop_cons h]
theorem erase_split {r : List Int} {i : Nat} : r.eraseIdx i = r.take i ++ r.drop (i + 1) := List.eraseIdx_eq_take_drop_succ r i
theorem Bent.few {n : Nat} {r s : List Int} (h : Bent n r s) : ∃ t : List Int, t.Sublist r ∧ t.Sublist s ∧ r.length ≤ t.length + n := by
  induction h with
  | zero r => exact ⟨r, List.Sublist.refl _, List.Sublist.refl _, by omega⟩
  | move _ e _ ih =>
    obtain ⟨t, h1, h2, h3⟩ := ih
    rw [split_at e] at h2
    obtain ⟨t', k1, k2, k3⟩ := sub_less h2
    refine ⟨t', k1.trans h1, ?_, by omega⟩
    rw [← erase_split] at k2
    refine k2.trans ?_
    have key : ∀ (l : List Int) (j : Nat) (c : Int), l.Sublist (l.take j ++ [c] ++ l.drop j) := fun l j c => by
      have := List.Sublist.append (List.sublist_append_left (l.take j) [c]) (List.Sublist.refl (l.drop j))
      rwa [List.take_append_drop] at this
    exact key _ _ _
theorem W_bent {n : Nat} {r s : List Int} (h : Bent n r s) (hr : Rg r) (w : wovenB r = true) : (r.length : Int) ≤ W s + n := by
  obtain ⟨t, h1, h2, h3⟩ := h.few
  have := W_ge h2 (woven_sub hr h1 w)
  omega
theorem W_all {r : List Int} (w : wovenB r = true) : W r = r.length := by
  have h1 := W_ge (List.Sublist.refl r) w
  have h2 := W_le r
  omega
theorem woven_less {r : List Int} (h : Rg r) : wovenB (lessR r) = wovenB r := by
  rw [woven_pts, woven_pts]
  have := (pts_less h).length_eq
  rw [List.length_map] at this
  cases e1 : ptsR (lessR r) <;> cases e2 : ptsR r <;> rw [e1, e2] at this <;> first | rfl | simp at this
theorem W_rev {r : List Int} (h : Rg r) : W r.reverse = W r := by
  have key : ∀ {r : List Int}, Rg r → W r ≤ W r.reverse := fun {r} h => by
    obtain ⟨s, h1, h2, h3⟩ := W_ex r
    have hs : Rg s := fun x hx => h x (h1.subset hx)
    have := W_ge (List.reverse_sublist.mpr h1) (by rw [woven_reverse hs]; exact h2)
    rw [List.length_reverse] at this
    omega
  have h1 := key h
  have h2 := key h.rev
  rw [List.reverse_reverse] at h2
  omega
theorem W_lessR {r : List Int} (h : Rg r) : W (lessR r) = W r := by
  have key : ∀ {r : List Int}, Rg r → W r ≤ W (lessR r) := fun {r} h => by
    obtain ⟨s, h1, h2, h3⟩ := W_ex r
    have hs : Rg s := fun x hx => h x (h1.subset hx)
    have := W_ge (s := lessR s) (r := lessR r) (h1.map _) (by rw [woven_less hs]; exact h2)
    have e : (lessR s).length = s.length := List.length_map _
    omega
  have h1 := key h
  have h2 := key h.less
  rw [less_less] at h2
  omega

/-! ## fours apart -/
theorem at0_map (r : List Int) : (List.range r.length).map (at0 r) = r := by
  apply List.ext_getElem?
  intro i
  rw [List.getElem?_map]
  by_cases h : i < r.length
  · rw [List.getElem?_range h, at0_get h]; rfl
  · rw [List.getElem?_eq_none (by rw [List.length_range]; omega), List.getElem?_eq_none (by omega)]; rfl
theorem upsM_filter (p : Int → Bool) : ∀ r : List Int, upsM r (r.map p) = r.filter p
  | [] => rfl
  | c :: r => by
    have ih := upsM_filter p r
    cases e : p c <;> simp [upsM, e, ih]
theorem keep_filter {r : List Int} (hn : r.Nodup) {g : List Nat} (hg : ∀ x ∈ g, x < r.length) : upsM r (keepM (g.map fun x : Nat => (x : Int)) r.length) = r.filter fun x => !decide (x ∈ g.map (at0 r)) := by
  rw [← upsM_filter]
  congr 1
  conv => rhs; rw [← at0_map r, List.map_map]
  rw [at0_map]
  unfold keepM
  refine List.map_congr_left fun j hj => ?_
  rw [List.mem_range] at hj
  show (!decide _) = !decide _
  congr 1
  rw [decide_eq_decide, List.mem_map, List.mem_map]
  constructor
  · rintro ⟨x, hx, e⟩
    have : x = j := by omega
    subst this
    exact ⟨x, hx, rfl⟩
  · rintro ⟨x, hx, e⟩
    refine ⟨x, hx, ?_⟩
    apply Classical.byContradiction
    intro z
    rcases Nat.lt_or_gt_of_ne (show x ≠ j from fun q => z (by omega)) with q | q
    · exact at0_ne hn q hj e
    · exact at0_ne hn q (hg x hx) e.symm
theorem sub_is_filter : ∀ {s r : List Int}, s.Sublist r → r.Nodup → r.filter (fun x => decide (x ∈ s)) = s := by
  intro s r h
  induction h with
  | slnil => intro _; rfl
  | cons a h ih =>
    intro hn
    rw [List.nodup_cons] at hn
    rw [List.filter_cons, if_neg (by simp; exact fun z => hn.1 (h.subset z))]
    exact ih hn.2
  | cons_cons a h ih =>
    intro hn
    rename_i l1 l2
    rw [List.nodup_cons] at hn
    rw [List.filter_cons, if_pos (by simp)]
    congr 1
    conv => rhs; rw [← ih hn.2]
    refine List.filter_congr fun x hx => ?_
    have : x ≠ a := fun z => by subst z; exact hn.1 hx
    simp [this]
theorem sub_mem {s t r : List Int} (hn : r.Nodup) (hs : s.Sublist r) (ht : t.Sublist r) (h : ∀ x ∈ t, x ∈ s) : t.Sublist s := by
  rw [← sub_is_filter hs hn]
  have e : t.filter (fun x => decide (x ∈ s)) = t := List.filter_eq_self.mpr fun x hx => by simpa using h x hx
  rw [← e]
  exact ht.filter _
theorem bar_not {a b c d : Int} (h : Bar a b c d) : wovenB [a, b, c, d] = false := by
  cases e : wovenB [a, b, c, d] with
  | false => rfl
  | true =>
    unfold wovenB at e
    simp only [goodB, Bool.or_eq_true, Bool.and_eq_true, decide_eq_true_iff] at e
    unfold Bar at h
    omega
theorem four_sub {r : List Int} {i j k l : Nat} (h1 : i < j) (h2 : j < k) (h3 : k < l) (h4 : l < r.length) : [at0 r i, at0 r j, at0 r k, at0 r l].Sublist r := by
  have e : ∀ {x y : Nat}, x ≤ y → y < r.length → (r.drop x) = (r.drop x).take (y - x) ++ at0 r y :: r.drop (y + 1) := fun {x y} hxy hy => by
    have h : (r.drop x)[y - x]? = some (at0 r y) := by
      rw [List.getElem?_drop, show x + (y - x) = y by omega]
      exact at0_get hy
    have := split_at h
    rw [List.drop_drop, show x + (y - x + 1) = y + 1 by omega] at this
    exact this
  have c : ∀ {x y : Nat} {t : List Int}, x ≤ y → y < r.length → t.Sublist (r.drop (y + 1)) → (at0 r y :: t).Sublist (r.drop x) := fun {x y t} hxy hy h => by
    rw [e hxy hy]
    exact (h.cons_cons _).trans (List.sublist_append_right _ _)
  have : ([at0 r i, at0 r j, at0 r k, at0 r l]).Sublist (r.drop 0) := c (by omega) (by omega) (c (by omega) (by omega) (c (by omega) (by omega) (c (by omega) h4 (List.nil_sublist _))))
  rwa [List.drop_zero] at this
theorem W_four {r : List Int} (hr : Rg r) (hn : r.Nodup) {i j k l : Nat} (h1 : i < j) (h2 : j < k) (h3 : k < l) (h4 : l < r.length) (hb : Bar (at0 r i) (at0 r j) (at0 r k) (at0 r l)) :
    W r ≤ W (upsM r (keepM (([i, j, k, l] : List Nat).map fun x : Nat => (x : Int)) r.length)) + 3 := by
  obtain ⟨s, s1, s2, s3⟩ := W_ex r
  have hg : ∀ x ∈ ([i, j, k, l] : List Nat), x < r.length := by
    intro x hx
    simp only [List.mem_cons, List.not_mem_nil, or_false] at hx
    omega
  rw [keep_filter hn hg]
  have hF : (([i, j, k, l] : List Nat).map (at0 r)) = [at0 r i, at0 r j, at0 r k, at0 r l] := rfl
  rw [hF]
  have hsub := four_sub (r := r) h1 h2 h3 h4
  generalize hFF : ([at0 r i, at0 r j, at0 r k, at0 r l] : List Int) = F at hsub
  have hsr : Rg s := fun x hx => hr x (s1.subset hx)
  have t1 := W_ge (s1.filter fun x => !decide (x ∈ F)) (woven_sub hsr List.filter_sublist s2)
  have t2 : (s.filter fun x => !decide (x ∈ F)).length + (s.filter fun x => decide (x ∈ F)).length = s.length := by
    have := (List.filter_append_perm (fun x => decide (x ∈ F)) s).length_eq
    rw [List.length_append] at this
    omega
  have hFl : F.length = 4 := by rw [← hFF]; rfl
  have t3 : (s.filter fun x => decide (x ∈ F)).length ≤ 3 := by
    have q1 : (s.filter fun x => decide (x ∈ F)).Sublist F := by
      refine sub_mem hn hsub (List.filter_sublist.trans s1) fun x hx => ?_
      have := (List.mem_filter.mp hx).2
      simpa using this
    have q2 := q1.length_le
    apply Classical.byContradiction
    intro z
    have q3 : (s.filter fun x => decide (x ∈ F)) = F := q1.eq_of_length (by omega)
    have q4 : F.Sublist s := by rw [← q3]; exact List.filter_sublist
    have q5 := woven_sub hsr q4 s2
    rw [← hFF, bar_not hb] at q5
    cases q5
  omega

/-! ## a card put in -/
theorem ins_woven {r : List Int} {m : List Bool} {c : Int} {k : Nat} (h : Pt r m) (hn : r.Nodup) (hc : c ∉ r) (h0 : ((upsM r m).filter fun x => decide (c < x)) = [] → k = r.length) (h1 : ∀ y l, ((upsM r m).filter fun x => decide (c < x)) = y :: l → k = r.idxOf y) :
    k ≤ r.length ∧ ∃ m', Pt (r.take k ++ [c] ++ r.drop k) m' := by
  have hk : k ≤ r.length := by
    cases e : (upsM r m).filter fun x => decide (c < x) with
    | nil => rw [h0 e]; exact Nat.le_refl _
    | cons y l => rw [h1 y l e]; exact List.idxOf_le_length
  refine ⟨hk, m.take k ++ [true] ++ m.drop k, ?_⟩
  obtain ⟨hl, hu, hd⟩ := h
  have hlt : (m.take k).length = (r.take k).length := by rw [List.length_take, List.length_take, hl]
  have split : ∀ m : List Bool, m.length = r.length → upsM r m = upsM (r.take k) (m.take k) ++ upsM (r.drop k) (m.drop k) := fun m hm => by
    conv => lhs; rw [← List.take_append_drop k r, ← List.take_append_drop k m]
    exact upsM_append (by rw [List.length_take, List.length_take, hm])
  have eu : upsM (r.take k ++ [c] ++ r.drop k) (m.take k ++ [true] ++ m.drop k) = upsM (r.take k) (m.take k) ++ c :: upsM (r.drop k) (m.drop k) := by
    rw [upsM_append (by rw [List.length_append, List.length_append, hlt]; rfl), upsM_append hlt]
    simp [upsM]
  have ed : upsM (r.take k ++ [c] ++ r.drop k) ((m.take k ++ [true] ++ m.drop k).map (!·)) = upsM r (m.map (!·)) := by
    rw [List.map_append, List.map_append, upsM_append (by simp; omega), upsM_append (by simp; omega), split (m.map (!·)) (by rw [List.length_map, hl]), List.map_take, List.map_drop]
    simp [upsM]
  have hs := split m hl
  rw [hs] at hu h0 h1
  have hP : ∀ x ∈ upsM (r.take k) (m.take k), x ∈ r.take k := fun x hx => upsM_mem hx
  have hS : ∀ x ∈ upsM (r.drop k) (m.drop k), x ∈ r.drop k := fun x hx => upsM_mem hx
  have hmr : ∀ x, x ∈ r.take k ∨ x ∈ r.drop k → x ∈ r := fun x hx => by
    rw [← List.take_append_drop k r]
    exact List.mem_append.mpr hx
  have key : (∀ x ∈ upsM (r.take k) (m.take k), x < c) ∧ (∀ x ∈ upsM (r.drop k) (m.drop k), c < x) := by
    generalize hPP : upsM (r.take k) (m.take k) = P at *
    cases e : (P ++ upsM (r.drop k) (m.drop k)).filter fun x => decide (c < x) with
    | nil =>
      have hkl := h0 e
      have hnot : ∀ x ∈ P ++ upsM (r.drop k) (m.drop k), ¬ c < x := fun x hx hlt => by
        have : x ∈ ([] : List Int) := by rw [← e]; exact List.mem_filter.mpr ⟨hx, by simpa using hlt⟩
        simp at this
      refine ⟨fun x hx => ?_, fun x hx => ?_⟩
      · have h2 := hnot x (by simp [hx])
        have h3 : x ≠ c := fun z => hc (by rw [← z]; exact hmr x (.inl (hP x hx)))
        omega
      · have := hS x hx
        rw [hkl, List.drop_length] at this
        simp at this
    | cons y l =>
      have hky := h1 y l e
      have hy : y ∈ (P ++ upsM (r.drop k) (m.drop k)).filter fun x => decide (c < x) := by rw [e]; simp
      obtain ⟨hy1, hy2⟩ := List.mem_filter.mp hy
      have hcy : c < y := by simpa using hy2
      have hyr : y ∈ r := by
        rcases List.mem_append.mp hy1 with z | z
        · exact hmr y (.inl (hP y z))
        · exact hmr y (.inr (hS y z))
      have hlt := List.idxOf_lt_length_of_mem hyr
      have hget : r[k]? = some y := by
        rw [hky, List.getElem?_eq_getElem hlt]
        simp
      have hspl := split_at hget
      have hnt : y ∉ r.take k := fun z => by
        have hn2 := hn
        rw [hspl, List.nodup_append] at hn2
        exact hn2.2.2 y z y (by simp) rfl
      have hnd : y ∉ r.drop (k + 1) := fun z => by
        have hn2 := hn
        rw [hspl, List.nodup_append, List.nodup_cons] at hn2
        exact hn2.2.1.1 z
      have hyS : y ∈ upsM (r.drop k) (m.drop k) := (List.mem_append.mp hy1).resolve_left fun z => hnt (hP y z)
      obtain ⟨pu, su, ps⟩ := List.pairwise_append.mp hu
      have hlp : (y :: l).Pairwise (· < ·) := by rw [← e]; exact hu.filter _
      refine ⟨fun x hx => ?_, fun x hx => ?_⟩
      · have h2 := ps x hx y hyS
        have h3 : x ≠ c := fun z => hc (by rw [← z]; exact hmr x (.inl (hP x hx)))
        by_cases h4 : c < x
        · have : x ∈ y :: l := by rw [← e]; exact List.mem_filter.mpr ⟨by simp [hx], by simpa using h4⟩
          rcases List.mem_cons.mp this with z | z
          · omega
          · have := (List.pairwise_cons.mp hlp).1 x z
            omega
        · omega
      · rw [drop_cons hget] at hx hyS su
        cases em : m.drop k with
        | nil => rw [em] at hx; simp [upsM] at hx
        | cons b mm =>
          rw [em] at hx hyS su
          cases b with
          | false =>
            simp only [upsM, Bool.false_eq_true, if_false] at hyS
            exact (hnd (upsM_mem hyS)).elim
          | true =>
            simp only [upsM, if_true] at hx su
            rcases List.mem_cons.mp hx with z | z
            · omega
            · have := (List.pairwise_cons.mp su).1 x z
              omega
  refine ⟨?_, ?_, ?_⟩
  · simp
    omega
  · rw [eu]
    obtain ⟨pu, su, ps⟩ := List.pairwise_append.mp hu
    rw [List.pairwise_append, List.pairwise_cons]
    refine ⟨pu, ⟨key.2, su⟩, fun a ha b hb => ?_⟩
    rcases List.mem_cons.mp hb with rfl | hb
    · exact key.1 a ha
    · exact ps a ha b hb
  · rw [ed]
    exact hd
end Wv

namespace Wv
open PySem PySem.Spec PyProof.Rows L2

/-! ## a tuple, many times -/
theorem tuple_mul1 (l : Addr) (items : Array Value) (n : Nat) (dd : Option Addr) (sl : Array (Option Value)) (u : Tok) :
    Meets (Builtin.«tuple.__mul__» ⟨[.ref l, .int 1 u], []⟩) (fun _ R s => s.heap.get? l = some { cls := .type "tuple", dict := dd, data := .seq items n, slots := sl } ∧ R (.ok (.ret (Value.ref l))) { s with heap := s.heap, toks := s.toks }) :=
  .of_wp fun prog w A R s h => by
    obtain ⟨hp, g, d, tk, os⟩ := s
    obtain ⟨hl, h⟩ := h
    have f1 := AutoSeq1.idx_int
    have c1 : (items.isEmpty || (1 : Int) == 1) = true := by rw [show ((1 : Int) == 1) = true from rfl, Bool.or_true]
    wp_walk using wpAny_loadPart' hl
    exact ⟨_, rfl, h⟩
def rRepT1 (K : PySem.W.Frag) : R2 := fun x y H Q => ∃ l xs, x = .ref l ∧ y = .int 1 ∧ SqT K H l xs ∧ Q (.ref l) H
section
variable {X : Cx} {e a b c : Expr} {es : List Expr} {pos : Pos} {ta tb tc : AT} {tr : ATA} {M : Mo}
theorem op_repT1 : OpR X (binaryOp .Mult) (rRepT1 X.K) := by
  intro pins s σ H x y v u Q I rx ry h
  obtain ⟨l, xs, rfl, rfl, hT, q⟩ := h
  cases rx
  obtain ⟨t, rfl⟩ := ry
  obtain ⟨its, r, ⟨⟨cls, dd, data, sl⟩, ho, hc, n, hd⟩, hs⟩ := I.tuple hT
  simp only at hc hd
  subst hc hd
  refine wpAny_binaryOp_repeat_ref (T := "tuple") (U := "int") (by decide) ⟨_, ho, rfl⟩ (fun s' => typeIs_int s' 1 t) noFill_tuple_mul F.fills_int_mul F.slot_int_rmul repeat_tuple F.slot_int_index.lookup
    (call_meets F.slot_int_rmul (typeIs_int s 1 t) F.entry_int_rmul (F.args_int_rmul_2 _ _) (int_rmul_tuple 1 t l its.toArray n dd sl)
      ⟨ho, rfl, ⟨_, ho, rfl⟩, call_meets F.slot_tuple_mul ⟨_, ho, rfl⟩ F.entry_tuple_mul (F.args_tuple_mul_2 _ _) (tuple_mul1 l its.toArray n dd sl t) ⟨ho, ?_⟩⟩)
  exact ⟨.ref l, H, I.tok _, rfl, q⟩
def oRepT : AR2 := fun x y L K => match see L x, y with
  | .tup ds, .int k => ds ≠ [] ∧ 1 ≤ k ∧ k ≤ 1000 ∧ ds.length ≤ 1000 ∧ K (.tup (List.replicate k.toNat ds).flatten) L
  | _, _ => False
theorem Reps.replicate {L : Lg} {H : Hp} {ds : List D} {vs : List V} (r : Reps M L H ds vs) : ∀ n : Nat, Reps M L H (List.replicate n ds).flatten (List.replicate n vs).flatten
  | 0 => .nil
  | n + 1 => by
    rw [List.replicate_succ, List.replicate_succ, List.flatten_cons, List.flatten_cons]
    exact r.append (r.replicate n)
theorem ro_repT : RO M (fun x y H Q => rRepT M.K x y H Q ∨ rRepT1 M.K x y H Q) oRepT := by
  intro Z x y v w L H K Q W rx ry t q
  unfold oRepT at t
  split at t
  · rename_i ds k e1
    obtain ⟨p, xs, rfl, lp, hp, r1⟩ := rep_tup (M := M.z Z) rx e1
    cases ry
    obtain ⟨h1, h2, h3, h4, t⟩ := t
    have hl := r1.length
    by_cases hk : k = 1
    · subst hk
      refine .inr ⟨p, xs, rfl, rfl, SqT.of hp, ?_⟩
      have e : (List.replicate (1 : Int).toNat ds).flatten = ds := by show (List.replicate 1 ds).flatten = ds; simp
      rw [e] at t
      exact q _ _ _ _ (Pers.refl L H) W (.tup lp hp r1) t
    · refine .inl ⟨p, k, xs, rfl, rfl, SqT.of hp, fun e => ?_, by omega, h3, by omega, fun z hz => ?_⟩
      · subst e
        cases r1
        exact h1 rfl
      · have P : Pers L H L (upd H z (.tup (List.replicate k.toNat xs).flatten)) := Pers.new hz
        exact q _ _ _ _ P (W.new hz) (.tup (W.fresh hz) upd_same ((r1.mono P).replicate k.toNat)) t
  · exact t.elim
theorem ae_repT (ha : AE X a ta) (hb : AE X b tb) : AE X (.BinOp a .Mult b pos) (aOp oRepT ta tb) := ae_op (OpR.or op_repT op_repT1) ro_repT ha hb

/-! ## int(b) -/
def cIntB : ARC := fun ds L K => match ds with
  | [.bl b] => K (.int (if b then 1 else 0)) L
  | _ => False
theorem rc_intB : RC M (fun xs H Q => (∃ i, xs = [.int i] ∧ Q (.int i) H) ∨ ∃ k, xs = [.bl k] ∧ Q (.int (if k then 1 else 0)) H) cIntB := by
  intro Z ds vs L H K Q W r t q
  unfold cIntB at t
  split at t
  · obtain ⟨v, rfl, r1⟩ := reps1 r
    cases r1
    exact .inr ⟨_, rfl, q _ _ _ _ (Pers.refl L H) W (.int _) t⟩
  · exact t.elim
theorem ae_intB {p : Pos} (hg : Gl X "int") (hm : X.mg "int" = none) (ha : AE X e ta) (hs : starEach [e] X.env = (false, eval e X.env) :: starEach [] X.env := by rfl) : AE X (.Call (.Name "int" p) [e] [] pos) (aCall cIntB (aCons ta aNil)) :=
  ae_Ty call_int1 rc_intB hg hm (by decide +kernel) (aa_cons ha aa_nil hs) (he := hs)
end

/-! ## list(d), d a dict with nested keys -/
mutual
def keyD : NestedKey → D
  | .none => .non
  | .num i => .int i
  | .text x => .str x
  | .tup ks => .tup (keysD ks)
def keysD : List NestedKey → List D
  | [] => []
  | k :: ks => keyD k :: keysD ks
end
section
variable {M : Mo} {L : Lg} {H : Hp}
mutual
theorem krep_rep : ∀ {k : NestedKey} {v : V}, KRep M L H k v → Rep M L H (keyD k) v
  | _, _, .none => .non
  | _, _, .num i => .int i
  | _, _, .text x => .str x
  | _, _, .tup a b c => .tup a b (kreps_reps c)
theorem kreps_reps : ∀ {k : List NestedKey} {v : List V}, KReps M L H k v → Reps M L H (keysD k) v
  | _, _, .nil => .nil
  | _, _, .cons a b => .cons (krep_rep a) (kreps_reps b)
end
theorem EReps.keys {kvs : List (NestedKey × D)} {xs : List (NestedKey × Addr × Value)} (r : EReps M L H kvs xs) : Reps M L H (kvs.map fun x => keyD x.1) ((xs.map fun x => x.2.1).map V.ref) := by
  induction r with
  | nil => exact .nil
  | @cons p q ps qs h t ih =>
    obtain ⟨_, _, h3, _⟩ := h
    exact .cons (krep_rep h3) ih
end
def rListN (M : Mo) : List V → Hp → VK → Prop := fun vs H Q => ∃ (p : Addr) (xs : List (NestedKey × Addr × Value)), vs = [.ref p] ∧ H p = some (dctO M p xs) ∧ (p == sysModules) = false ∧ xs.length ≤ 1000000 ∧ ∀ l, H l = none → Q (.ref l) (upd H l (.lst ((xs.map fun x => x.2.1).map V.ref)))
section
variable {X : Cx} {e a b c : Expr} {es : List Expr} {pos : Pos} {ta tb tc : AT} {tr : ATA} {M : Mo}
theorem call_list_dN (hc : X.calm = true) : CallR X (.type "list") (rListN X.mo) := by
  intro pins s σ H vs us Q I r h
  obtain ⟨d, ks, rfl, hd, hs, hz0, q⟩ := h
  obtain ⟨u, rfl, rx⟩ := r.one
  cases rx
  obtain ⟨⟨o, es, ep, ho, hx, hdt, he, hn⟩, _⟩ := (show ObjOk X.prog X.w H s.heap d (dctO X.mo d ks) from I.hok d _ hd)
  have l1 : es.size = ks.length := size_of_entries he
  have hline : (1000000 : Nat) ≤ sizeLine := by decide
  refine PySem.W.kdl_call (kdl_raw hs hx hdt) (I.ok.hd hc) ho (by omega) fun h' tk acc' c' kp e it => ?_
  have ea : acc'.toList = ks.map fun x => Value.ref x.2.1 := by
    have hl : acc'.toList.length = ks.length := by rw [Array.length_toList, it.1]; exact l1
    apply List.ext_getElem?
    intro j
    rw [List.getElem?_map]
    cases hj : acc'.toList[j]? with
    | none =>
      have h1 := List.getElem?_eq_none_iff.mp hj
      rw [List.getElem?_eq_none (by omega)]
      all_goals rfl
    | some v =>
      obtain ⟨en, hen, hv⟩ := it.2 j v (by rw [← Array.getElem?_toList]; exact hj)
      have qe := entry_at he j
      rw [hen] at qe
      cases hb : ks[j]? with
      | none =>
        rw [hb] at qe
        exact nomatch (show some en = none from qe)
      | some b =>
        rw [hb] at qe
        have e2 : en = entryOfKey (nestedKind X.prog X.w) b := Option.some.inj qe
        rw [hv, e2]
        all_goals rfl
  have eb : acc'.toList = (ks.map fun x => x.2.1).map Value.ref := by rw [ea, List.map_map]; all_goals rfl
  have rv : Vals ((ks.map fun x => x.2.1).map V.ref) acc'.toList := by rw [eb]; exact vals_refs _
  have hz : ((ks.map fun x => x.2.1).map V.ref).length ≤ sizeLine := by rw [List.length_map, List.length_map]; omega
  refine ⟨.ref s.heap.objs.size, _, I.laid (t' := tk) (o := .lst ((ks.map fun x => x.2.1).map V.ref)) kp (Nat.le_refl _) ?_, rfl, q _ (I.hok.fresh (Nat.le_refl _))⟩
  exact ⟨hz, acc'.toList, c', rv, by rw [Array.toArray_toList]; exact e⟩
def cListD : ARC := fun ds L K => match ds with
  | [.ref p] => match L p with
    | some (.dct kvs) => kvs.length ≤ 1000000 ∧ K (.lst (kvs.map fun x => keyD x.1)) L
    | _ => False
  | _ => False
theorem rc_listD : RC M (rListN M) cListD := by
  intro Z ds vs L H K Q W r t q
  unfold cListD at t
  split at t
  · rename_i p
    split at t
    · rename_i kvs ek
      obtain ⟨v, rfl, r1⟩ := reps1 r
      cases r1
      obtain ⟨xs, hx, er, hs⟩ := W.cell p _ ek
      have hl := er.length
      exact ⟨p, xs, rfl, hx, hs, by omega, fun l hl => new_lst (M := M.z Z) W er.keys t.2 q hl⟩
    · exact t.elim
  · exact t.elim
theorem ae_listD {p : Pos} (hc : X.calm = true) (hg : Gl X "list") (hm : X.mg "list" = none) (ha : AE X e ta) (hs : starEach [e] X.env = (false, eval e X.env) :: starEach [] X.env := by rfl) : AE X (.Call (.Name "list" p) [e] [] pos) (aCall cListD (aCons ta aNil)) :=
  ae_Ty (call_list_dN hc) rc_listD hg hm (by decide +kernel) (aa_cons ha aa_nil hs) (he := hs)
end
end Wv

namespace Wv
open PySem PySem.Spec PyProof.Rows L2 HotX

/-! # where an exception is handled: the ends of iterators -/
section
variable {prog : Program} {w : World} {A : Around} {E : Value → Shared → Prop} {s : Shared} {x1 : Addr}
/-- StopIteration is raised behind a write at it -/
theorem stop_hot {α : Type} {it : Addr} {g : Obj → Obj} {Q : α → Shared → Prop} (hot : HotAt A x1 s.heap) (nx : x1 ≠ it)
    (hE : ∀ h' e, Heap.ExtBut it s.heap h' → (∃ o, h'.get? e = some o ∧ o.cls = .type "StopIteration") → E (.ref e) { s with heap := h' }) :
    wpAny (model prog w) A (newExc (.type "StopIteration") [] >>= fun e => (raiseNew e : Sem α)) Q E { s with heap := s.heap.update it g } := by
  obtain ⟨hh, o1, vs1, h1, d1, c1⟩ := hot
  have h2 : (s.heap.update it g).get? x1 = some o1 := (Heap.get?_update_other _ _ nx.symm).trans h1
  refine wpAny_bind ?_
  simp only [newExc, newTuple]
  refine wpAny_bind (wpAny_newObj_type ?_ (by size_fits))
  refine wpAny_bind (m := firstArgMember _ _) (wpAny_of_eq (a := Value.none) (by first | rfl | (simp only [firstArgMember]; rfl)) ?_)
  refine wpAny_newObj_type ?_ (by size_fits)
  refine raiseNew_hot ⟨hh, o1, vs1, Heap.get?_push_of_some _ (Heap.get?_push_of_some _ h2), d1, c1⟩ (Nat.ne_of_lt (Heap.lt_size (Heap.get?_push_of_some _ h2))) (Heap.get?_push_size _ rfl) rfl (by first | (simp; done) | (simp; omega) | (simp only [Array.size_append]; simp; omega)) ?_
  refine hE _ _ (fun b o hb e => ?_) ⟨_, Heap.get?_update_self _ (Heap.get?_push_size _ rfl) rfl, rfl⟩
  have e2 : (s.heap.update it g).get? b = some o := (Heap.get?_update_other _ _ hb.symm).trans e
  rw [Heap.get?_update_other _ _ (Nat.ne_of_gt (Heap.lt_size (Heap.get?_push_of_some _ e2)))]
  exact Heap.get?_push_of_some _ (Heap.get?_push_of_some _ e2)
/-- a list's iterator at its end -/
theorem lend_hot {it l : Addr} {i : Nat} {items : Array Value} {Q : Value → Shared → Prop} (hot : HotAt A x1 s.heap) (nx : x1 ≠ it) (hit : s.heap.IsListIter it l i) (hl : s.heap.IsList l items) (hx : items[i]? = none)
    (hE : ∀ h' e, Heap.ExtBut it s.heap h' → (∃ o, h'.get? e = some o ∧ o.cls = .type "StopIteration") → E (.ref e) { s with heap := h' }) : wpAny (model prog w) A (Builtin.SmallTypes.nextOf (.ref it)) Q E s := by
  obtain ⟨oi, h1, _, h2⟩ := id hit
  obtain ⟨ol, h3, _, k, h4⟩ := hl
  have ne : ¬ ((Value.ref l == Value.none) = true) := Bool.false_ne_true
  unfold Builtin.SmallTypes.nextOf
  refine wpAny_bind (wpAny_callSpecial?_slot (name := Str.ofString "__next__") hit.typeIs slot_listiter_next (wpAny_call_entry slot_listiter_next hit.typeIs entry_listiter_next ?_ (args_listiter_next _)))
  show wpAny _ _ (field (.ref it) 0 >>= _) _ _ s
  refine wpAny_bind (wpAny_field h1 h2 (x := .ref l) rfl ?_)
  show wpAny _ _ (if (Value.ref l == Value.none) = true then _ else _) _ _ s
  rw [if_neg ne]
  show wpAny _ _ (field (.ref it) 1 >>= _) _ _ s
  refine wpAny_bind (wpAny_field h1 h2 (x := .int i 0) rfl ?_)
  show wpAny _ _ (seqItems? (.ref l) >>= _) _ _ s
  refine wpAny_bind (wpAny_seqItems h3 h4 ?_)
  simp only [Int.toNat_natCast, hx]
  refine wpAny_bind (wpAny_rule (wpAny_bind (wpAny_setField h1 h2 (by simp) ?_)))
  exact stop_hot hot nx hE
/-- a tuple's iterator at its end, by next -/
theorem tend_hot {it t : Addr} {i : Nat} {items : Array Value} {Q : Option Value → Shared → Prop} (hot : HotAt A x1 s.heap) (nx : x1 ≠ it) (hit : s.heap.IsTupleIter it t i) (ht : s.heap.IsTuple t items) (hx : items[i]? = none)
    (hQ : ∀ h', Heap.ExtBut it s.heap h' → Q none { s with heap := h' }) : wpAny (model prog w) A (pyNext (.ref it)) Q E s := by
  obtain ⟨oi, h1, _, h2⟩ := id hit
  obtain ⟨ol, h3, _, k, h4⟩ := ht
  have ne : ¬ ((Value.ref t == Value.none) = true) := Bool.false_ne_true
  unfold pyNext
  refine wpAny_bind (wpAny_attempt (wpAny_callSpecial?_slot (name := Str.ofString "__next__") hit.typeIs F.slot_tuple_iterator_next (wpAny_call_entry F.slot_tuple_iterator_next hit.typeIs F.entry_tuple_iterator_next ?_ (F.args_tuple_iterator_next_1 _))))
  show wpAny _ _ (field (.ref it) 0 >>= _) _ _ s
  refine wpAny_bind (wpAny_field h1 h2 (x := .ref t) rfl ?_)
  show wpAny _ _ (if (Value.ref t == Value.none) = true then _ else _) _ _ s
  rw [if_neg ne]
  show wpAny _ _ (field (.ref it) 1 >>= _) _ _ s
  refine wpAny_bind (wpAny_field h1 h2 (x := .int i 0) rfl ?_)
  show wpAny _ _ (seqItems? (.ref t) >>= _) _ _ s
  refine wpAny_bind (wpAny_seqItems h3 h4 ?_)
  simp only [Int.toNat_natCast, hx]
  refine wpAny_bind (wpAny_rule (wpAny_bind (wpAny_setField h1 h2 (by simp) ?_)))
  refine stop_hot hot nx fun h' e he ⟨o, ho, hc⟩ => ?_
  refine wpAny_bind (wpAny_isInstance (T := "StopIteration") (b := true) ⟨o, ho, hc⟩ isSubtype_stop ?_)
  exact wpAny_pure (hQ _ he)
/-- a tuple given to names -/
theorem assign_hot {env : Env} {elts : List Expr} {k : Nat} {pos : Pos} {t : Addr} {items : Array Value} {Q : Unit → Shared → Prop} (hot : HotAt A x1 s.heap) (ht : s.heap.IsTuple t items)
    (hn : (assignEach elts env).length = items.size) (hstar : (assignEach elts env).findIdx? (·.1) = none)
    (h : ∀ h', Heap.ExtBut s.heap.objs.size s.heap h' → wpAny (model prog w) A (assignInOrder ((assignEach elts env).map (·.2)) items.toList) Q E { s with heap := h' }) :
    wpAny (model prog w) A (assign (.Tuple elts k pos) env (.ref t)) Q E s := by
  have hot0 := hot
  obtain ⟨hh, o1, vs1, g1, d1, c1⟩ := hot
  have lt : t ≠ s.heap.objs.size := by obtain ⟨o, ho, _⟩ := ht; exact Nat.ne_of_lt (Heap.lt_size ho)
  have ltx : x1 ≠ s.heap.objs.size := Nat.ne_of_lt (Heap.lt_size g1)
  rw [arm_assign_Tuple]
  refine wpAny_bind (wpAny_standAt ?_)
  unfold unpack
  rw [hn, hstar]
  refine wpAny_bind (wpAny_holding ?_)
  unfold unpackItems
  refine wpAny_bind ?_
  unfold notIterableAtAll
  refine wpAny_bind (wpAny_specialOf ht.typeIs F.slot_tuple_iter.lookup (wpAny_pure ?_))
  simp only [Bool.false_eq_true, if_false]
  refine wpAny_bind (wpAny_holding (wpAny_pyIter_tuple ht ?_))
  refine wpAny_bind (wpAny_holding (wpAny_draw_tuple lt items.size 0 _ _ ⟨_, Heap.get?_push_size _ rfl, rfl, rfl⟩ (ht.push _) (by omega) fun h₁ hit₁ hs₁ => ?_))
  have hall : List.take items.size (List.drop 0 items.toList) = items.toList := by rw [List.drop_zero]; exact List.take_of_length_le (by simp)
  rw [hall, if_neg (by simp)]
  have ht₁ : h₁.IsTuple t items := (ht.push _).extBut hs₁.extBut lt
  have g2 : h₁.get? x1 = some o1 := hs₁.extBut _ _ ltx (Heap.get?_push_of_some _ g1)
  refine wpAny_bind (wpAny_holding (tend_hot (x1 := x1) ⟨hh, o1, vs1, g2, d1, c1⟩ ltx hit₁ ht₁ (by simp) fun h₂ he₂ => ?_))
  simp only [Option.isSome_none, Bool.false_eq_true, if_false]
  exact wpAny_pure (h h₂ fun b o hb e => he₂ b o hb (hs₁.extBut b o hb (Heap.get?_push_of_some _ e)))
end
/-- what a list's iterator draws there -/
theorem draws_hot {prog : Program} {w : World} {A : Around} {x1 : Addr} (hh : A.handled = some (.ref x1)) (it l : Addr) (hne : l ≠ it) (nx : x1 ≠ it) (items : Array Value) :
    Draws prog w A it [it, l, x1] items.size (fun i v => items[i]? = some v) (fun i h => h.IsListIter it l i ∧ h.IsList l items ∧ HotAt A x1 h) where
  live := fun _ _ st => let ⟨o, ho, _⟩ := st.1; ⟨o, ho⟩
  frame := fun _ _ _ st hk => ⟨st.1.at fun o e => hk it (by simp) o e, st.2.1.at fun o e => hk l (by simp) o e, st.2.2.1, let ⟨o, vs, a, b, c⟩ := st.2.2.2; ⟨o, vs, hk x1 (by simp) o a, b, c⟩⟩
  item := fun i s Q E hi st hQ => by
    refine wpAny_nextOf_list_item st.1 st.2.1 (x := items[i]) (by simp [hi]) fun h' hit' hs' => ?_
    exact hQ _ h' s.toks (by simp [hi]) ⟨hit', st.2.1.extBut hs'.extBut hne, st.2.2.1, let ⟨o, vs, a, b, c⟩ := st.2.2.2; ⟨o, vs, hs'.extBut _ _ nx a, b, c⟩⟩ hs'
  done := fun s Q E st hE => lend_hot st.2.2 nx st.1 st.2.1 (by simp) hE
end Wv

namespace Wv
open PySem PySem.Spec PyProof.Rows L2 HotX

/-! # [a for a, b in zip(xs, ys) if b], where an exception is handled -/
theorem off_5 {b N C D l1 l2 : Nat} (hb : b < N ∨ b = C) (hC : N + 5 ≤ C) (hD : N + 5 ≤ D) (h : D ≠ C) : ¬ (b = D ∨ b = N + 4 ∨ b = N + 3 ∨ b = N ∨ b = N + 1) := by omega
theorem ne_5 {b N C : Nat} (hb : b < N + 5) (hC : N + 5 ≤ C) : b ≠ C := by omega
theorem lt_5 {b N l1 l2 x : Nat} (h1 : l1 < N) (h2 : l2 < N) (h3 : x < N) (hb : b = N + 4 ∨ b = N + 2 ∨ b = N + 3 ∨ b = N ∨ b = l1 ∨ b = x ∨ b = N + 1 ∨ b = l2 ∨ b = x) : b < N + 5 := by omega
def keptV {α : Type} (xs : List α) (bs : List Bool) : List α := ((xs.zip bs).filter fun p => p.2).map (·.1)
theorem keptV_snoc {α : Type} {xs : List α} {bs : List Bool} {i : Nat} {x : α} {b : Bool} (hx : xs[i]? = some x) (hb : bs[i]? = some b) : keptV (xs.take (i + 1)) (bs.take (i + 1)) = keptV (xs.take i) (bs.take i) ++ if b then [x] else [] := by
  have l1 : i < xs.length := (List.getElem?_eq_some_iff.mp hx).1
  have l2 : i < bs.length := (List.getElem?_eq_some_iff.mp hb).1
  unfold keptV
  rw [List.take_add_one, List.take_add_one, hx, hb]
  show List.map _ (List.filter _ (List.zip (xs.take i ++ [x]) (bs.take i ++ [b]))) = _
  rw [List.zip_append (by rw [List.length_take, List.length_take]; omega), List.filter_append, List.map_append]
  cases b <;> rfl
section
variable {prog : Program} {w : World} {A : Around} {env : Env} {s : Shared} {x1 : Addr}
theorem comp_hot {a b : Str} {iter : Expr} {scope : Scope} {cl : List (Str × Addr)} {l1 l2 : Addr} {xs ys : Array Value} {bs : List Bool} {pa pb pi pt pe pos : Pos} {k : Nat} {Q : Value → Shared → Prop} (hot : HotAt A x1 s.heap)
    (hclos : closureFor scope env = pure cl) (hcell : ∀ y ∈ scope.names, y.2 ≠ .cell) (hkind : scope.kind = .function) (hnames : ∀ y ∈ scope.names, y.2 = .local → scope.names.lookup y.1 = some .local)
    (ha : scope.names.lookup a = some .local) (hb : scope.names.lookup b = some .local) (hab : (a == b) = false) (hda : (a == ("__debug__" : Str)) = false) (hdb : (b == ("__debug__" : Str)) = false)
    (hca : (a == ("__classdict__" : Str)) = false) (hcb : (b == ("__classdict__" : Str)) = false)
    (hl1 : s.heap.IsList l1 xs) (hl2 : s.heap.IsList l2 ys) (hbs : ys.toList = bs.map Value.bool) (hxy : xs.size = ys.size) (hsz : xs.size ≤ sizeLine)
    (hz : ∀ {R : Value → Shared → Prop}, wpAny (model prog w) A (call (.type "zip") [.ref l1, .ref l2]) R (fun _ _ => False) s → wpAny (model prog w) A (eval iter env) R (fun _ _ => False) s)
    (hs : ∀ x, foldedSetIterable iter env x = pure x)
    (h : ∀ D h' tk (vs : List Value), s.heap.objs.size ≤ D → h'.PlainList D vs.toArray → vs = keptV xs.toList bs → (∀ b o, s.heap.get? b = some o → h'.get? b = some o) → Q (.ref D) { s with heap := h', toks := tk }) :
    wpAny (model prog w) A (eval (.ListComp (.Name a pe) [⟨.Tuple [.Name a pa, .Name b pb] k pt, iter, [.Name b pi], 0⟩] scope pos) env) Q (fun _ _ => False) s := by
  have hot0 := hot
  obtain ⟨hh, o1, vs1, g1, d1, c1⟩ := hot
  have hlx : x1 < s.heap.objs.size := Heap.lt_size g1
  have hlt1 : l1 < s.heap.objs.size := by obtain ⟨o, ho, _⟩ := hl1; exact Heap.lt_size ho
  have hlt2 : l2 < s.heap.objs.size := by obtain ⟨o, ho, _⟩ := hl2; exact Heap.lt_size ho
  have hmin : min xs.size ys.size = xs.size := by rw [← hxy]; exact Nat.min_self _
  refine ListComp_goes hclos hcell hkind hnames (hz ?_) hs
  refine zip_begins2 (begins_list l1 xs) (begins_list l2 ys) hl1 hl2 fun h₁ hZ hTI hTO hi1 hi2 hz5 hk₁ => ?_
  refine wpAny_pyIter_zip hZ ?_
  refine ⟨_, _, _, _, _, _, rfl, Goes.zip2 (zip_sep2 (N := s.heap.objs.size) (fp1 := [l1, x1]) (fp2 := [l2, x1]) (fun b hb => by rcases List.mem_cons.mp hb with e | e; exact e ▸ hlt1; exact (List.mem_singleton.mp e) ▸ hlx) (fun b hb => by rcases List.mem_cons.mp hb with e | e; exact e ▸ hlt2; exact (List.mem_singleton.mp e) ▸ hlx))
      (draws_hot (A := A.in1) hh _ l1 (Nat.ne_of_lt hlt1) (Nat.ne_of_lt hlx) xs) (draws_hot (A := A.in1) hh _ l2 (Nat.ne_of_lt (Nat.lt_succ_of_lt hlt2)) (Nat.ne_of_lt (Nat.lt_succ_of_lt hlx)) ys), Nat.le_trans (Nat.min_le_left ..) hsz,
    ⟨hZ, hTI, ⟨_, _, hTO⟩, ⟨⟨_, hi1, rfl, rfl⟩, hl1.at fun o e => hk₁ _ o e, hh, o1, vs1, hk₁ _ _ g1, d1, c1⟩, ⟨⟨_, hi2, rfl, rfl⟩, hl2.at fun o e => hk₁ _ o e, hh, o1, vs1, hk₁ _ _ g1, d1, c1⟩⟩, ?_, fun D C s₃ hB => ?_⟩
  · intro b hb
    show b < h₁.objs.size
    rw [hz5]
    exact lt_5 hlt1 hlt2 hlx (by simpa using hb)
  · obtain ⟨⟨h₃, tk₃, rfl⟩, old, nD, nC, hDC, hnm⟩ := hB
    have nC' : (s.heap.objs.size + 5 : Nat) ≤ C := by rw [← hz5]; exact nC
    have nD' : (s.heap.objs.size + 5 : Nat) ≤ D := by rw [← hz5]; exact nD
    have hDC' : (D : Nat) ≠ C := hDC
    have kinds : ∀ y, scope.names.lookup y = some .local → (compEnvC scope cl C env).kindOf y = some .local := fun y hy => lookup_relabel_local hy
    have hp : ((compEnvC scope cl C env).scope.kind == .class || ((compEnvC scope cl C env).scope.kind == .module && (compEnvC scope cl C env).locals != (compEnvC scope cl C env).globals)) = false := by
      show (scope.kind == .class || (scope.kind == .module && _)) = false
      rw [hkind]; rfl
    refine ⟨fun i vs s₁ => ∃ h' tk m, s₁ = { s with heap := h', toks := tk } ∧ h'.Ns C m ∧ vs = keptV (xs.toList.take i) (bs.take i) ∧ ∀ b o, s.heap.get? b = some o → h'.get? b = some o, ⟨h₃, tk₃, _, rfl, hnm, rfl, fun b o e => old b o (hk₁ b o e)⟩, ?_, ?_, ?_⟩
    · rintro i vs s₁ h' tk ⟨h₄, tk₄, m, rfl, n₄, e₄, k₄⟩ hk' _
      have off : ∀ b : Addr, (b < s.heap.objs.size ∨ b = C) → b ∉ D :: [s.heap.objs.size + 4, s.heap.objs.size + 3, s.heap.objs.size, s.heap.objs.size + 1] := fun b hb hm => off_5 (l1 := 0) (l2 := 0) hb nC' nD' hDC' (by simpa using hm)
      exact ⟨h', tk, m, rfl, n₄.at' fun o e => hk' _ o (off _ (.inr rfl)) e, e₄, fun b o e => hk' b o (off _ (.inl (Heap.lt_size e))) (k₄ b o e)⟩
    · rintro i v vs s₁ hi ⟨T, x, y, rfl, hx, hy, hT⟩ st ⟨h₄, tk₄, m, rfl, n₄, e₄, k₄⟩ hpl
      have hxi : xs[i]? = some x := hx
      have hyi : ys[i]? = some y := hy
      obtain ⟨bo, hbo, rfl⟩ : ∃ bo, bs[i]? = some bo ∧ Value.bool bo = y := by
        have q : ys.toList[i]? = some y := by simpa using hyi
        rw [hbs, List.getElem?_map] at q
        exact Option.map_eq_some_iff.mp q
      have hot₄ : HotAt A x1 h₄ := ⟨hh, o1, vs1, k₄ _ _ g1, d1, c1⟩
      obtain ⟨oT, hoT, _⟩ := id hT
      have hCs : C < h₄.objs.size := by obtain ⟨o, _, _, ho, _⟩ := n₄; exact Heap.lt_size ho
      refine assign_hot (s := { s with heap := h₄, toks := tk₄ }) hot₄ hT rfl rfl fun h₅ hs₅ => ?_
      have up₅ : ∀ b o, h₄.get? b = some o → h₅.get? b = some o := fun b o e => hs₅ b o (Nat.ne_of_lt (Heap.lt_size e)) e
      show wpAny _ _ (assignInOrder [assign (.Name a pa) _, assign (.Name b pb) _] [x, .bool bo]) _ _ _
      refine wpAny_assignInOrder_more (wpAny_assign_Name (wpAny_storeName_local (kinds _ ha) (n₄.at' fun o e => up₅ _ o e) (fun h₆ n₆ s₆ => ?_) hp))
      refine wpAny_assignInOrder_more (wpAny_assign_Name (wpAny_storeName_local (kinds _ hb) n₆ (fun h₇ n₇ s₇ => wpAny_assignInOrder_none ?_) hp))
      have up₇ : ∀ b o, b ≠ C → h₄.get? b = some o → h₇.get? b = some o := fun b o hb e => s₇.extBut _ _ hb (s₆.extBut _ _ hb (up₅ b o e))
      have offC : ∀ b : Addr, b < s.heap.objs.size + 5 → b ≠ C := fun b hb => ne_5 hb nC'
      have fin : ∀ {tk : Nat} {m' : Str → Option Value} {vs' : List Value}, h₇.Ns C m' → vs' = keptV (xs.toList.take (i + 1)) (bs.take (i + 1)) → (∃ h' tk' m, ({ s with heap := h₇, toks := tk } : Shared) = { s with heap := h', toks := tk' } ∧ h'.Ns C m ∧ vs' = keptV (xs.toList.take (i + 1)) (bs.take (i + 1)) ∧ ∀ b o, s.heap.get? b = some o → h'.get? b = some o) := fun {tk m' vs'} n e => ⟨h₇, tk, m', rfl, n, e, fun b o e => up₇ b o (offC b (Nat.lt_add_right 5 (Heap.lt_size e))) (k₄ b o e)⟩
      have hst : (∃ a1 a2, IsZip h₇ (s.heap.objs.size + 4) (s.heap.objs.size + 2) (s.heap.objs.size + 3) .none ∧ IsTupOf2 h₇ (s.heap.objs.size + 2) (.ref s.heap.objs.size) (.ref (s.heap.objs.size + 1)) ∧ IsTupOf2 h₇ (s.heap.objs.size + 3) a1 a2 ∧ (h₇.IsListIter s.heap.objs.size l1 (i + 1) ∧ h₇.IsList l1 xs ∧ HotAt A.in1 x1 h₇) ∧ (h₇.IsListIter (s.heap.objs.size + 1) l2 (i + 1) ∧ h₇.IsList l2 ys ∧ HotAt A.in1 x1 h₇)) := by
        obtain ⟨z1, z2, ⟨a1, a2, z3⟩, ⟨z4, z5, _⟩, ⟨z6, z7, _⟩⟩ := st
        have hot₇ : HotAt A.in1 x1 h₇ := ⟨hh, o1, vs1, up₇ _ _ (offC _ (Nat.lt_add_right 5 hlx)) (k₄ _ _ g1), d1, c1⟩
        exact ⟨a1, a2, up₇ _ _ (offC _ (Nat.add_lt_add_left (by decide) _)) z1, up₇ _ _ (offC _ (Nat.add_lt_add_left (by decide) _)) z2, up₇ _ _ (offC _ (Nat.add_lt_add_left (by decide) _)) z3, ⟨z4.at fun o e => up₇ _ o (offC _ (Nat.lt_add_of_pos_right (by decide))) e, z5.at fun o e => up₇ _ o (offC _ (Nat.lt_add_right 5 hlt1)) e, hot₇⟩, ⟨z6.at fun o e => up₇ _ o (offC _ (Nat.add_lt_add_left (by decide) _)) e, z7.at fun o e => up₇ _ o (offC _ (Nat.lt_add_right 5 hlt2)) e, hot₇⟩⟩
      obtain ⟨a1, a2, z1, z2, z3, z4, z6⟩ := hst
      have hsn := keptV_snoc (xs := xs.toList) (bs := bs) (x := x) (by simpa using hxi) hbo
      refine wpAny_tests_one (wpAny_isTrue_value ?_)
      rw [eval_Name _ _ _ hdb]
      refine wpAny_bind (wpAny_standAt (wpAny_loadName_local hkind (kinds _ hb) n₇ (v := .bool bo) (by simp) (wpAny_truthy_bool ?_)))
      cases bo with
      | false =>
        show _ ∧ _
        exact ⟨fin n₇ (by rw [e₄, hsn]; simp), ⟨z1, z2, ⟨a1, a2, z3⟩, z4, z6⟩, hpl.at fun o e => up₇ _ o hDC e⟩
      | true =>
        show wpAny _ _ _ _ _ _
        rw [eval_Name _ _ _ hda]
        have hba : a ≠ b := by simpa using hab
        refine wpAny_bind (wpAny_standAt (wpAny_loadName_local hkind (kinds _ ha) n₇ (v := x) (by simp [hba]) ?_))
        exact ⟨fin n₇ (by rw [e₄, hsn]; simp), ⟨z1, z2, ⟨a1, a2, z3⟩, z4, z6⟩, hpl.at fun o e => up₇ _ o hDC e⟩
    · rintro vs s₁ ⟨h₄, tk₄, m, rfl, n₄, e₄, k₄⟩ hpl
      have nD'' : s.heap.objs.size ≤ D := Nat.le_trans (Nat.le_add_right _ 5) nD'
      refine ⟨m, n₄, fun h' hs' => h D h' tk₄ vs nD'' (hpl.extBut hs'.extBut hDC) ?_ fun b o e => hs'.extBut b o (ne_5 (Nat.lt_add_right 5 (Heap.lt_size e)) nC') (k₄ b o e)⟩
      have hbl : bs.length = xs.size := by
        have := congrArg List.length hbs
        rw [List.length_map, Array.length_toList] at this
        omega
      rw [e₄, hmin, List.take_of_length_le (by simp), List.take_of_length_le (by omega)]
end
end Wv

namespace Wv
open PySem PySem.Spec PyProof.Rows L2 HotX

theorem keptV_cons {α : Type} (x : α) (xs : List α) (b : Bool) (bs : List Bool) : keptV (x :: xs) (b :: bs) = if b then x :: keptV xs bs else keptV xs bs := by
  unfold keptV
  cases b <;> rfl
theorem vals_kept : ∀ {xs : List V} {us : List Value} (bs : List Bool), Vals xs us → Vals (keptV xs bs) (keptV us bs)
  | _, _, bs, .nil => by unfold keptV; simp; exact .nil
  | _, _, [], .cons r t => by unfold keptV; simp; exact .nil
  | _, _, b :: bs, .cons r t => by
    rw [keptV_cons, keptV_cons]
    cases b
    · exact vals_kept bs t
    · exact .cons r (vals_kept bs t)
theorem vals_bools : ∀ {bs : List Bool} {us : List Value}, Vals (bs.map V.bl) us → us = bs.map Value.bool
  | [], _, .nil => rfl
  | b :: bs, _, .cons r t => by
    have e : _ = Value.bool b := r
    rw [e, vals_bools t]
    rfl
/-- [a for a, b in zip(x, y) if b], an exception being handled: x, y in the slots i, j -/
def tCompH (i j : Nat) : TE := fun σ H Q => ∃ (la lb : Addr) (xs : List V) (bs : List Bool), σ[i]? = some (some (.ref la)) ∧ σ[j]? = some (some (.ref lb)) ∧ H la = some (.lst xs) ∧ H lb = some (.lst (bs.map V.bl)) ∧ xs.length = bs.length ∧
  ∀ D, H D = none → Q (.ref D) (upd H D (.lst (keptV xs bs)))
theorem keptV_len {α : Type} (xs : List α) (bs : List Bool) : (keptV xs bs).length ≤ xs.length := by
  unfold keptV
  rw [List.length_map]
  refine Nat.le_trans (List.length_filter_le _ _) ?_
  rw [List.length_zip]
  omega
theorem pe_compH {X : Cx} {i j k : Nat} {a b x y : Str} {scope : Scope} {pa pb pi pt pe pz px py pzz pos : Pos} (hc : L2H.HotC X) (hi : X.N[i]? = some x) (hj : X.N[j]? = some y)
    (hx : X.env.scope.names.lookup x = some .local) (hy : X.env.scope.names.lookup y = some .local) (hdx : (x == ("__debug__" : Str)) = false) (hdy : (y == ("__debug__" : Str)) = false)
    (hg : Gl X "zip") (hm : X.mg "zip" = none) (hn : ∀ z ∈ scope.names, z.2 = .local ∧ scope.names.lookup z.1 = some .local) (hkind : scope.kind = .function)
    (ha : scope.names.lookup a = some .local) (hb : scope.names.lookup b = some .local) (hab : (a == b) = false) (hda : (a == ("__debug__" : Str)) = false) (hdb : (b == ("__debug__" : Str)) = false)
    (hca : (a == ("__classdict__" : Str)) = false) (hcb : (b == ("__classdict__" : Str)) = false)
    (hs : ∀ v, foldedSetIterable (.Call (.Name "zip" pz) [.Name x px, .Name y py] [] pzz) X.env v = pure v := by intro _; rfl)
    (hs1 : starEach [.Name x px, .Name y py] X.env = (false, eval (.Name x px) X.env) :: starEach [.Name y py] X.env := by rfl) (hpl : (backTo pzz (starEach [.Name y py] X.env)).any (·.1) = false := by rfl) :
    PE X (.ListComp (.Name a pe) [⟨.Tuple [.Name a pa, .Name b pb] k pt, .Call (.Name "zip" pz) [.Name x px, .Name y py] [] pzz, [.Name b pi], 0⟩] scope pos) (tCompH i j) := by
  refine ⟨fun pins s σ H Q I h => ?_⟩
  obtain ⟨la, lb, xs, bs, h1, h2, h3, h4, hl, q⟩ := h
  obtain ⟨x1, hot⟩ := hc.at I
  obtain ⟨hz3, its, n3, r3, e3⟩ := I.hok la _ h3
  obtain ⟨hz4, its2, n4, r4, e4⟩ := I.hok lb _ h4
  obtain ⟨m, hmn, hml⟩ := I.loc
  have ld : ∀ {i : Nat} {x : Str} {l : Addr}, X.N[i]? = some x → X.env.scope.names.lookup x = some .local → σ[i]? = some (some (.ref l)) → m x = some (.ref l) := fun {i x l} hN hv e => by
    obtain ⟨u, r, w⟩ := hml i x _ hN e (.inl hv)
    obtain rfl : u = Value.ref l := r
    rcases w with ⟨_, z⟩ | ⟨z, _⟩
    · exact z
    · have hk : X.env.kindOf x = some .local := hv
      rcases z with z | z <;> (rw [hk] at z; cases z)
  have ev : ∀ {i : Nat} {x : Str} {l : Addr} {p : Pos} {R : Value → Shared → Prop} {s' : Shared}, X.N[i]? = some x → X.env.scope.names.lookup x = some .local → (x == ("__debug__" : Str)) = false → σ[i]? = some (some (.ref l)) → s' = s → R (.ref l) s' → wpAny (model X.prog X.w) X.A (eval (.Name x p) X.env) R (fun _ _ => False) s' := fun {i x l p R s'} hN hv hd e es hR => by
    subst es
    exact wpAny_Name (wpAny_loadName_local I.ok.kind hv hmn (ld hN hv e) hR) hd
  have hbs := vals_bools r4
  have l3 := r3.length
  have l4 := r4.length
  rw [List.length_map] at l4
  have main := comp_hot (prog := X.prog) (w := X.w) (A := X.A) (env := X.env) (s := s) (x1 := x1) (a := a) (b := b) (iter := .Call (.Name "zip" pz) [.Name x px, .Name y py] [] pzz) (scope := scope) (l1 := la) (l2 := lb) (xs := its.toArray) (ys := its2.toArray) (bs := bs)
    (pa := pa) (pb := pb) (pi := pi) (pt := pt) (pe := pe) (pos := pos) (k := k) (Q := EP X pins σ Q) hot (closure_ok fun z hz e => by rw [(hn z hz).1] at e; cases e) (fun z hz e => by rw [(hn z hz).1] at e; cases e) hkind (fun z hz _ => (hn z hz).2) ha hb hab hda hdb hca hcb
    ⟨_, e3, rfl, n3, rfl⟩ ⟨_, e4, rfl, n4, rfl⟩ (by simpa using hbs) (by rw [List.size_toArray, List.size_toArray]; omega) (by rw [List.size_toArray, ← l3]; exact hz3)
    (fun {R} hR => ?_) hs (fun D h' tk vs hD hpl hvs kp => ?_)
  · exact wpAny_mono main (fun _ _ z => z) fun _ _ z => False.elim z
  · refine Call_ (ld_blt I hg hm PyProof.Rows.boot_zip (PyProof.Rows.callWith_type1 ?_ hs1 hpl))
    refine Calls.spliced_cons (ev hi hx hdx h1 rfl (Calls.spliced_cons (ev hj hy hdy h2 rfl (Calls.spliced_nil ?_))))
    exact hR
  · obtain ⟨n5, e5⟩ := hpl
    have hlen := keptV_len xs bs
    refine ⟨.ref D, _, I.laid (t' := tk) (o := .lst (keptV xs bs)) kp hD ⟨by omega, vs, n5, ?_, e5⟩, rfl, q D (I.hok.fresh hD)⟩
    rw [hvs]
    simpa using vals_kept bs r3
end Wv

namespace Wv
open PySem PySem.Spec PyProof.Rows L2 HotX

/-! # several clauses, each with a name; the exception's context is None -/
section
variable {X : Cx}
/-- the clauses serve every exception of the wish w, once it has landed in the frame -/
def Serves (X : Cx) (D : Ends) (hds : List ExceptHandler) (w : WX) : Prop :=
  ∀ (pins : List (Addr × Obj)) (a : Addr) (B : Heap) (sI s' : Shared) (σ : L2.St) (H : Hp) (cls : Value) (d : Option Addr) (h3 : Heap),
    Inv X pins σ H sI → (∀ b o, sI.heap.get? b = some o → b ∉ frs X.stack → B.get? b = some o) → sI.heap.UpToSlots s'.heap → s'.heap.UpToSlots h3 → HandSPX.FlyingZ B (X.env :: X.outer) a (L2N.Zn cls d) h3 → H a = none → s'.os = sI.os → AllBare s'.gens → w cls d σ H →
    wpAny (model X.prog X.w) X.A (handleBy (.ref a) X.env hds) (SP X pins D) X.xe { s' with heap := h3 }
theorem serves_nil {D : Ends} {Wout : WX} (hs : X.stack = X.env :: X.outer) (hf : X.env.frame = some X.env.locals) (tk : L2N.Takes X Wout) : Serves X D [] Wout := by
  intro pins a B sI s' σ H cls d h3 J nb up up3 fl na os ag w
  refine wpAny_handleBy_nil ?_
  obtain ⟨_, _, _, oe, vs, T, oT, ts', he, hz, hd, h1, _⟩ := id fl
  unfold PySem.passOn
  refine wpAny_bind (wpAny_field he hd h1 ?_)
  have hT : ¬ ((Value.ref T == Value.none) = true) := by simp
  rw [if_neg hT]
  have fin : wpAny (model X.prog X.w) X.A (setFlight (.ref a) X.env.frame) (fun _ s4 => wpAny (model X.prog X.w) X.A (throw (.ref a) : Sem Flow) (SP X pins D) X.xe s4) X.xe { s' with heap := h3 } := by
    rw [hf]
    exact HandSPX.setFlight_upZ fl fun h4 hh4 up4 => wpAny_throw (tk _ _ ⟨a, B, sI, pins, σ, H, cls, d, rfl, J, nb, (up.trans up3).trans up4, .inr (.inr (by rw [hs]; exact hh4)), na, os, ag, w⟩)
  first
    | exact wpAny_bind (wpAny_pure (wpAny_bind fin))
    | exact wpAny_bind fin
theorem serves_as {D : Ends} {x n : Str} {c : Value} {i : Nat} {b₀ : Stmt} {suite : List Stmt} {np pos' : Pos} {ts : Addr → Value → Option Addr → TS} {hds : List ExceptHandler} {w : WX} (hs : X.stack = X.env :: X.outer) (hf : X.env.frame = some X.env.locals) (hN : X.N.Nodup) (hi : X.N[i]? = some n)
    (hln : X.env.kindOf n = some .local) (hc : Names X x c)
    (hsu : ∀ (a : Addr) (oe : Obj) (cls : Value) (d : Option Addr) (pn : List (Addr × Obj)), L2N.Zn cls d oe → (∃ vs, oe.data = .fields vs) → PSs (X.suite a ((a, oe) :: pn)) (b₀ :: suite) (ts a cls d))
    (r : Serves X D hds w) : Serves X D (.ExceptHandler (some (.Name x np)) (some n) (b₀ :: suite) pos' :: hds) (wAs X.K c i ts w D) := by
  intro pins a B sI s' σ H cls d h3 J nb up up3 fl na os ag hw
  have ok := J.ok
  obtain ⟨b, hb1, hyes, hno⟩ := hw
  have J3 : Inv X pins σ H { s' with heap := h3 } := J.landed nb fl.1 (up.trans up3) os ag
  have place : ∀ {h : Heap} {o : Obj} {vs : Array Value}, h.FunFrames B (X.env :: X.outer) → h.get? a = some o → o.data = .fields vs → a ≠ X.env.locals ∧ a ∉ X.fs := fun {h o vs} ff e dd => by
    have nfr : a ∉ frs (X.env :: X.outer) := fun hm => by
      obtain ⟨_, o', e', hnf⟩ := ff.mem hm
      rw [e] at e'
      cases e'
      exact hnf _ dd
    refine ⟨fun z => nfr (List.mem_filterMap.mpr ⟨X.env, List.mem_cons_self, by rw [hf, z]⟩), fun hm => ?_⟩
    obtain ⟨e0, he0, q⟩ := List.mem_filterMap.mp hm
    exact nfr (List.mem_filterMap.mpr ⟨e0, List.mem_cons_of_mem _ he0, q⟩)
  obtain ⟨oe3, vs3, he3, hz3, hd3⟩ := fl.there
  obtain ⟨nL, nF⟩ := place fl.2.2.1 he3 hd3
  have S3 := J3.suite he3 hd3 na nL nF
  refine wpAny_handleBy_cons (codeAny_handlers_test ?_) (by intro q; cases q)
  have LT : PySem.W.Looks (model X.prog X.w) h3 (typeOf (.ref a)) cls := fun A Q E s k q => wpAny_typeOf_ref (k _ _ he3) (by rw [hz3.1]; exact q)
  have LM := PySem.W.exm_one (M := model X.prog X.w) J3.kIn LT hb1
  have test : ∀ {Q : Value → Shared → Prop} {E : Value → Shared → Prop}, Q c { s' with heap := h3 } → wpAny (model X.prog X.w) (X.A.mark (some (.ref a))) (eval (.Name x np) X.env) Q E { s' with heap := h3 } := fun {Q E} q => by
    obtain ⟨hg, hdbg, hm | ⟨hm, hv, hnn⟩⟩ := hc
    · exact ld_glob (X := X.suite a ((a, oe3) :: (X.pn ++ pins))) S3 hg hm q hdbg
    · exact ld_blt (X := X.suite a ((a, oe3) :: (X.pn ++ pins))) S3 hg hm hv q hnn hdbg
  refine test (LM.here ?_)
  cases b with
  | false => exact r pins a B sI s' σ H cls d h3 J nb up up3 fl na os ag (hno rfl)
  | true =>
    refine codeAny_handlers_suite_as ?_
    refine HandSPX.lands_againZ fl fun h4 fl4 up4 => ?_
    have J4 : Inv X pins σ H { s' with heap := h4 } := J.landed nb fl4.1 ((up.trans up3).trans up4) os ag
    obtain ⟨oe4, vs4, he4, hz4, hd4⟩ := fl4.there
    have S4 := J4.suite he4 hd4 na nL nF
    refine store_ok (X := X.suite a ((a, oe4) :: (X.pn ++ pins))) (v := .ref a) S4 hN hi (.inl hln) rfl (fun s5 S5 => ?_) (.inr hln)
    have gone : ∀ {σ6 : L2.St} {H6 : Hp} {s6 : Shared} {Q : Shared → Prop}, Inv (X.suite a ((a, oe4) :: (X.pn ++ pins))) [] σ6 H6 s6 → (∀ s7, Inv X pins (σ6.set i none) H6 s7 → Q s7) →
        wpAny (model X.prog X.w) X.A (do bindName X.env n .none; unbindBehindTheSuite X.env n pos') (fun _ s7 => Q s7) X.xe s6 := fun {σ6 H6 s6 Q} S6 hq => gone_ok (S6.unsuite ok) hN hi hln hq
    refine wpAny_mono ((hsu a oe4 cls d (X.pn ++ pins) hz4 ⟨_, hd4⟩).run [] s5 _ H _ S5 (hyes rfl a na)) (fun f s6 hsp => ?_) fun _ _ z => False.elim z
    cases f with
    | next => obtain ⟨σ6, H6, S6, q6⟩ := hsp; exact gone S6 fun s7 J7 => ⟨_, _, J7, q6⟩
    | brk => obtain ⟨σ6, H6, S6, q6⟩ := hsp; exact gone S6 fun s7 J7 => ⟨_, _, J7, q6⟩
    | cont => obtain ⟨σ6, H6, S6, q6⟩ := hsp; exact gone S6 fun s7 J7 => ⟨_, _, J7, q6⟩
    | ret u => obtain ⟨v6, σ6, H6, S6, r6, q6⟩ := hsp; exact gone S6 fun s7 J7 => ⟨_, _, _, J7, r6, q6⟩
theorem ps_try_by {body : List Stmt} {h₀ : ExceptHandler} {hds : List ExceptHandler} {pos : Pos} {tb : WX → TS} {w : Ends → WX} (hs : X.stack = X.env :: X.outer) (hf : X.env.frame = some X.env.locals)
    (hb : ∀ (W : WX) (pn : List (Addr × Obj)) (xe : Value → Shared → Prop), L2N.Takes (X.tr pn xe) W → PassesOwn (model X.prog X.w) X.A X.env xe → PSs (X.tr pn xe) body (tb W))
    (hh : ∀ D, Serves X D (h₀ :: hds) (w D)) : PS X (.Try body (h₀ :: hds) [] [] pos) (fun D σ H => tb (w D) D σ H) := by
  refine ⟨fun pins s σ H D I h => ?_⟩
  have ok := I.ok
  have hfr : X.A.frames = some (X.env :: X.outer) := by rw [ok.frames, hs]
  let catch_ : Value → Shared → Prop := fun e s₁ => wpAny (model X.prog X.w) X.A (noteFrame e X.env) (fun _ s₂ => wpAny (model X.prog X.w) X.A (setFlight e none) (fun _ s₃ => wpAny (model X.prog X.w) X.A (handleBy e X.env (h₀ :: hds)) (SP X pins D) X.xe s₃) X.xe s₂) X.xe s₁
  have taken : L2N.Takes (X.tr (X.pn ++ pins) catch_) (w D) := fun u s' xx => by
    obtain ⟨a, B, sI, pins', σ', H', cls, d, rfl, J', nb, up, sky, na, os, ag, hw⟩ := xx
    have J : Inv X pins σ' H' sI := J'.ofTry ok
    have sky' : Sky B (X.env :: X.outer) a (L2N.Zn cls d) X.env.locals s'.heap := by rw [← hs]; exact sky
    exact L2N.Sky.land L2N.Zn.steady hfr hf sky' fun h3 fl3 up3 => hh D pins a B sI s' σ' H' cls d h3 J nb up up3 fl3 na os ag hw
  refine wpAny_Try_except ?_
  refine wpAny_mono ((hb (w D) (X.pn ++ pins) catch_ taken PassesOwn.looking).run [] s σ H D (I.toTry _) h) (fun f s1 hsp => ?_) fun e s1 he => he
  cases f with
  | next => obtain ⟨σ', H', J', q⟩ := hsp; exact wpAny_execs_nil ⟨σ', H', J'.ofTry ok, q⟩
  | brk => obtain ⟨σ', H', J', q⟩ := hsp; exact ⟨σ', H', J'.ofTry ok, q⟩
  | cont => obtain ⟨σ', H', J', q⟩ := hsp; exact ⟨σ', H', J'.ofTry ok, q⟩
  | ret u => obtain ⟨v, σ', H', J', r, q⟩ := hsp; exact ⟨v, σ', H', J'.ofTry ok, r, q⟩
end
end Wv

namespace Wv
open PySem PySem.Spec PyProof.Rows L2 HotX

/-! # a def called in a clause, that gets the exception -/
section
variable {X : Cx} {k : Nat} {f : Addr} {x : Str} {N ps : List Str} {q pos : Pos} {e : Expr} {es : List Expr} {ta : TA} {t : TS} {p : Addr × Obj} {st : Stmt} {fd : FuncData}
theorem pe_callHp (F : Fun X.K x x st f fd) (S : FnScope N ps (defScope st)) (hp : p ∈ X.pn) (hot : L2H.Hot1 X.A p) (hr : L2H.RoomH (k + 1) X.A) (hg : Gl X x) (hm : X.mg x = some (.ref f)) (hb : Binds X.K fd ps [])
    (hbody : ∀ (cdv : Value) (s : Shared) (H : Hp), L2H.RoomH k (X.A.deeper (envOfC x (defScope st) s.heap.objs.size f cdv)) → PSs (L2H.cxH C8.CX0 X.prog X.w X.K X.mg X.base N x (defScope st) f cdv X.A X.stack s H C8.E0 p) (defBody st) t)
    (ha : PA X (e :: es) ta) (hdb : (x == ("__debug__" : Str)) = false := by decide) (he : starEach (e :: es) X.env = (false, eval e X.env) :: starEach es X.env := by rfl) (hpl : (backTo pos (starEach es X.env)).any (·.1) = false := by rfl) :
    PE X (.Call (.Name x q) (e :: es) [] pos) (fun σ H Q => ta σ H fun vs H1 => vs.length = ps.length ∧ t { nx := fun _ H' => Q .non H', rt := Q } (L2.start N vs) H1) := by
  refine ⟨fun pins s σ H Q I h => ?_⟩
  obtain ⟨oc, od, kV, doc, pm, an, cdv, ct, osl, hfd, lk, hcd⟩ := F.ex
  refine wpAny_Call_Name_kw (ld_glob I hg hm ?_ hdb)
  refine PySem.W.callWith_K (h₀ := X.base) I.ok.mod.kin F.kp (thn (ha.run pos pins s σ H _ I h) fun us s1 ⟨vs, H1, I1, r, hl, hq⟩ => ⟨I1.kIn, ?_⟩) he hpl
  have P1 := I1.pin p (List.mem_append_left _ hp)
  have hpin : L2H.PinOk X.stack H1 s1 p := ⟨P1.1, P1.2.1, fun hm => (List.mem_cons.mp (I1.stkSub p.1 hm)).elim P1.2.2.1 P1.2.2.2.1, P1.2.2.2.2⟩
  have hul : us.length = ps.length := by rw [← r.length]; exact hl
  have hbind := hb s1 us I1.kIn (by rw [List.append_nil]; exact hul)
  rw [List.append_nil, hfd] at hbind
  have e0 := I1.env0
  have lim : s1.heap.NoLimit := I1.nolimit
  have hkind : ∀ y ∈ ps.zip us, (defScope st).names.lookup y.1 = some .local ∨ ((defScope st).names.lookup y.1 = some .cell ∧ ((cellsFrom (s1.heap.objs.size + 1) (defScope st).names []).lookup y.1).isSome = true) := fun ⟨n, v⟩ hy => by
    rcases S.par n (List.of_mem_zip hy).1 with z | z
    · exact .inl z
    · exact .inr ⟨z, PySem.W.cellsFrom_some _ _ _ (.inl z)⟩
  have run : codeAny (model X.prog X.w) X.A (.call (.ref f) ⟨us, []⟩) (CR C8.CX0 X.stack X.prog X.w H1 s1 Q C8.E0) s1 := by
    rw [hfd] at lk
    refine codeAny_call_function hr.depth (I1.kIn _ _ lk) rfl S.co S.gen rfl (PySem.W.codeRec_of I1.kIn hcd) (hbind _ _ _ _ ?_)
    refine wpAny_newFunctionEnv_cells S.kind hkind fun env he s2 x2 => ?_
    subst he
    refine ⟨lim.keeps x2.toInCall.keep, codeAny_func ?_⟩
    have J := L2H.inv_startH (CX := C8.CX0) (E := C8.E0) S hpin e0 hl r x2
    refine wpAny_mono ((hbody cdv s1 H1 (hr.deeper _)).run [] s2 (L2.start N vs) H1 _ J hq) (fun fl s' hs => ?_) fun e s' hs => hs
    cases fl with
    | ret u => obtain ⟨v, σ', H', J', rv, q⟩ := hs; exact ⟨v, H', J'.os, J'.bare, J'.base, J'.hok, rv, q⟩
    | next => obtain ⟨σ', H', J', q⟩ := hs; exact ⟨V.non, H', J'.os, J'.bare, J'.base, J'.hok, rfl, q⟩
    | brk => obtain ⟨_, _, _, q⟩ := hs; exact False.elim q
    | cont => obtain ⟨_, _, _, q⟩ := hs; exact False.elim q
  refine wpAny_call (codeAny_mono run fun r s' hq => ?_)
  cases r with
  | error e => exact (show False from hq).elim
  | ok fl =>
    cases fl with
    | ret u => exact I1.after hq
    | next => exact False.elim hq
    | brk => exact False.elim hq
    | cont => exact False.elim hq
/-- isinstance(e, c), e an exception that is pinned -/
theorem call_isP {a D : Addr} {oe : Obj} (C : ExcC X.K D) (hp : (a, oe) ∈ X.pn) (hc : oe.cls = .ref D) (hd : oe.dict = none) (hf : ∃ vs, oe.data = .fields vs) : CallR X (.builtin "isinstance") (rIsE X.K D a) := by
  intro pins s σ H xs us Q I r h
  obtain ⟨c, cv, b, rfl, hcv, e, q⟩ := h
  obtain ⟨u1, u2, rfl, rx, rt⟩ := vals2 r
  cases rx
  have ec := hcv _ rt
  subst ec
  obtain ⟨hget, _⟩ := I.pin (a, oe) (List.mem_append.mpr (.inl hp))
  obtain ⟨vs, hv⟩ := hf
  have J : PySem.W.InstAt s.heap a oe D none := by
    obtain ⟨oc, od, oda, osl⟩ := oe
    dsimp only at hc hd hv
    subst hc hd hv
    exact ⟨hget, rfl, rfl, trivial⟩
  exact PySem.W.kia_one (PySem.W.handS_kitx_exc C.hg C.hk C.hs C.hd C.ha C.hn C.ht C.hm) I.kIn J e (fun z => nomatch z) fun tk => ⟨.bl b, H, I.kept (t' := tk) fun _ _ z => z, rfl, q⟩
end
end Wv

namespace Wv
open PySem PySem.Spec PyProof.Rows L2 HotX LamX

/-! # a lambda handed to a def; what it raises has no context -/
/-- the lambda's context, its exceptions told with their context -/
abbrev lamCxN (X : Cx) (A : Around) (outer : List Env) (s : Shared) (H : Hp) (E : XK) (scope : Scope) (f c' : Addr) : Cx :=
  (lamCx X A outer s H E scope f c').wish fun e s' => wpAny (model X.prog X.w) (A.deeper (lamEnv X scope s.heap.objs.size f c')) (leaving (lamEnv X scope s.heap.objs.size f c') e)
    (fun _ s'' => L2N.CX X.prog X.w outer H s E e s'') (fun e' s'' => L2N.CX X.prog X.w outer H s E e' s'') s'
section
variable {X : Cx} {pins : List (Addr × Obj)} {σ : L2.St} {H : Hp} {s : Shared}
theorem pe_actN {CXg : CXT} {Eg : XK} {Ng : List Str} {qg : Str} {sg : Scope} {g f c' : Addr} {cdg pm ctv : Value} {params : Arguments} {body : Expr} {scope : Scope} {k i : Nat} {a : Str} {pn : List (Addr × Obj)} {xe : Value → Shared → Prop} {W : WX} {E : XK} {tb : TE} {p1 p2 : Pos}
    (I : Inv X pins σ H s) (L : LamS X.env.scope scope) (hf : s.heap.get? f = some (PySem.W.kla_obj "<lambda>" (X.env.qual ++ "<lambda>") params body scope (cloFrom X.env.cells scope.names []) pm c' ctv)) (hfn : H f = none) (hfr : f ∉ frs X.stack)
    (hbind : bindArgs (PySem.W.kla_fn "<lambda>" (X.env.qual ++ "<lambda>") params body scope (cloFrom X.env.cells scope.names []) pm (.ref c') ctv) ⟨[], []⟩ = pure [])
    (tk : L2N.Takes ((cxOf CXg X.prog X.w X.K X.mg X.base Ng qg sg g cdg X.A X.stack s H Eg).tr pn xe) W) (hW : ∀ cls d σ' H', E cls d H' → W cls d σ' H') (hr : Room (k + 1) (X.A.deeper (envOfC qg sg s.heap.objs.size g cdg)))
    (hbody : ∀ (A : Around) (outer : List Env) (s : Shared) (H : Hp), Room k (A.deeper (lamEnv X scope s.heap.objs.size f c')) → PE (lamCxN X A outer s H E scope f c') body tb)
    (hN : Ng[i]? = some a) (hv : Vis sg a) (hd : (a == ("__debug__" : Str)) = false) (hcd : (a == ("__classdict__" : Str)) = false) :
    PE ((cxOf CXg X.prog X.w X.K X.mg X.base Ng qg sg g cdg X.A X.stack s H Eg).tr pn xe) (.Call (.Name a p1) [] [] p2)
      (fun σZ HZ Q => σZ[i]? = some (some (.ref f)) ∧ HZ c' = some (CodeO c' (X.env.qual ++ "<lambda>")) ∧ tb σ HZ Q) := by
  refine ⟨fun pinsZ sZ σZ HZ Q IZ h => ?_⟩
  obtain ⟨hs, hc, ht⟩ := h
  have name := (pe_var (pos := p1) (i := i) hN hv hd hcd).run pinsZ sZ σZ HZ (fun v H1 => v = .ref f ∧ H1 = HZ) IZ ⟨.ref f, hs, rfl, rfl⟩
  refine wpAny_Call_Name_kw (thn name fun u s1 ⟨v, H1, I1, r1, ev, eH⟩ => ?_)
  subst ev
  rw [eH] at I1
  obtain rfl : u = Value.ref f := r1
  have of1 := I1.base.keep f _ hf hfn hfr (fun z => nomatch (show f ∈ ([] : List Addr) from z))
  refine PySem.W.callWith_F0 ⟨_, _, _, _, of1⟩ ?_
  have un : Un (frs X.stack) [] H HZ s.heap s1.heap := I1.base
  obtain ⟨⟨oc, vs, t, hoc, hdc, hvc⟩, _, _⟩ := I1.hok c' _ hc
  have run : codeAny (model X.prog X.w) (X.A.deeper (envOfC qg sg s.heap.objs.size g cdg)) (.call (.ref f) ⟨[], []⟩) (CR (L2N.CX X.prog X.w) (envOfC qg sg s.heap.objs.size g cdg :: X.stack) X.prog X.w HZ s1 Q E) s1 := by
    refine PySem.W.kla_callFunE hr.depth of1 rfl L.co L.gen rfl ⟨c', oc, vs, t, rfl, hoc, hdc, hvc⟩ ?_
    rw [hbind]
    refine wpAny_pure (wpAny_newFunctionEnv (fun y hy => (L.own y hy).2) (fun y hy => absurd hy (by simp)) (fun h₁ hns hsb => ⟨I1.nolimit.fresh _ hsb, ?_⟩) L.kind)
    show codeAny _ _ (.expr body (lamEnv X scope s1.heap.objs.size f c')) _ _
    have kp : ∀ b o, s1.heap.get? b = some o → h₁.get? b = some o := fun b o e => hsb.extBut b o (Nat.ne_of_lt (Heap.lt_size e)) (Heap.get?_push_of_some _ e)
    have J0 : Inv (lamCx X (X.A.deeper (envOfC qg sg s.heap.objs.size g cdg)) (envOfC qg sg s.heap.objs.size g cdg :: X.stack) s1 HZ E scope f c') [] σ HZ { s1 with heap := h₁, toks := s1.toks + ([] : List (Str × Value)).length } :=
      lam_start2 I L I1.env0 hr.hd un hns kp
    refine PySem.W.kla_codeExpr (wpAny_mono ((hbody _ _ s1 HZ (hr.deeper _)).run [] _ _ HZ Q (J0.wish _) ht) (fun v s' hq => ?_) fun e s' hq => hq)
    obtain ⟨w', H', J', rv, q⟩ := hq
    exact ⟨w', H', J'.os, J'.bare, J'.base, J'.hok, rv, q⟩
  have pass := L2N.passes_call (E := E) tk hW
  refine wpAny_call (codeAny_mono run fun r s' hq => ?_)
  cases r with
  | error e => exact pass pinsZ σZ HZ s1 e s' I1 hq
  | ok fl =>
    cases fl with
    | ret u => exact I1.after hq
    | next => exact False.elim hq
    | brk => exact False.elim hq
    | cont => exact False.elim hq
end
/-- what the making of a lambda leaves of the table at P -/
structure Made (P : Addr) (q : Str) (H H1 : Hp) : Prop where
  keep : ∀ b o, b ≠ P → H b = some o → H1 b = some o
  tab : ∃ ps ps' : Array Value, H P = some (.tbl ps) ∧ H1 P = some (.tbl ps') ∧ TriplesOk ps'.toList ∧
    ∀ (pos : Pos) (cv : Value), codeAmong pos ps'.toList = some cv → codeAmong pos ps.toList = some cv ∨ ∃ c, cv = .ref c ∧ H c = none ∧ H1 c = some (CodeO c q)
section
variable {X : Cx} {pins : List (Addr × Obj)} {σ : L2.St} {H : Hp} {s : Shared}
theorem lam_make3 {c P : Addr} {ps : Array Value} {params : Arguments} {body : Expr} {scope : Scope} {pos : Pos} {E : Value → Shared → Prop} {Q : Value → Shared → Prop} (I : Inv X pins σ H s) (TB : TabB X.base X.mg c P) (hcode : X.env.code = .ref c)
    (hP : H P = some (.tbl ps)) (ht : TriplesOk ps.toList) (ha : ∀ (pos : Pos) (cv : Value), codeAmong pos ps.toList = some cv → ∃ c', cv = .ref c' ∧ H c' = some (CodeO c' (X.env.qual ++ "<lambda>")))
    (hdef : defaultsOf params X.env = ([], [])) (hfree : ∀ y ∈ scope.names, y.2 = .free → ∃ c, X.env.cells.lookup y.1 = some c)
    (h : ∀ (f c' : Addr) (pm ctv : Value) (H1 : Hp) (s' : Shared), Inv X pins σ H1 s' → Made P (X.env.qual ++ "<lambda>") H H1 →
      s'.heap.get? f = some (PySem.W.kla_obj "<lambda>" (X.env.qual ++ "<lambda>") params body scope (cloFrom X.env.cells scope.names []) pm c' ctv) → H1 f = none → f ∉ frs X.stack → H1 c' = some (CodeO c' (X.env.qual ++ "<lambda>")) → Q (.ref f) s') :
    wpAny (model X.prog X.w) X.A (eval (.Lambda params body scope pos) X.env) Q E s := by
  refine PySem.W.kla_eval hdef ?_
  have bP := TB.bm.keeps I.bk
  have hP' : s.heap.get? P = some { cls := .none, data := .fields ps } := I.hok P _ hP
  have out : ∀ f, s.heap.objs.size ≤ f → f ∉ frs X.stack := fun f hf z => by
    rcases List.mem_cons.mp (I.stkSub _ z) with e | e
    · have h1 := I.lt
      rw [← e] at h1
      exact Nat.lt_irrefl _ (Nat.lt_of_lt_of_le h1 hf)
    · exact I.nofs hf e
  cases hc : codeAmong pos ps.toList with
  | some cv =>
    obtain ⟨c', e, hco⟩ := ha pos cv hc
    subst e
    refine PySem.W.kla_makeFunctionHit (mg := X.mg) (c := c) (P := P) (ps := ps) (closure_ok hfree) I.ok.glob (I.mod.glob.keeps I.bk) hcode (TB.code.keeps I.bk) hP' ht hc bP fun ctv h' tk hx hsz => ?_
    exact h h'.objs.size c' ((X.mg "__name__").getD .none) ctv H _ (I.kept fun b o e => Heap.get?_push_of_some _ (hx b o e)) ⟨fun _ _ _ e => e, ps, ps, hP, hP, ht, fun _ _ z => .inl z⟩ (Heap.get?_push_size _ rfl) (I.hok.fresh hsz) (out _ hsz) hco
  | none =>
    refine PySem.W.kla_makeFunction (mg := X.mg) (c := c) (P := P) (ps := ps) (closure_ok hfree) I.ok.glob (I.mod.glob.keeps I.bk) hcode (TB.code.keeps I.bk) hP' ht hc TB.gP bP fun c' ctv h' tk hx hge hlt hrec htb => ?_
    obtain ⟨c2, oc, vs, t, e2, hoc, hd, hv⟩ := hrec
    cases e2
    have hsz : s.heap.objs.size ≤ h'.objs.size := Nat.le_trans hge (Nat.le_of_lt hlt)
    have nC : H c' = none := I.hok.fresh hge
    have nPc : P ≠ c' := ne_of_none hP nC
    have I1 := inv_table (t' := tk) (more := #[rawInt pos.line, rawInt pos.col, .ref c']) (h' := h'.push (PySem.W.kla_obj "<lambda>" (X.env.qual ++ "<lambda>") params body scope (cloFrom X.env.cells scope.names []) ((X.mg "__name__").getD .none) c' ctv)) I hP
      (fun b o hb e => Heap.get?_push_of_some _ (hx b o hb e)) (Heap.get?_push_of_some _ htb) hge ⟨oc, vs, t, Heap.get?_push_of_some _ hoc, hd, hv⟩
    have eL : (ps ++ #[rawInt pos.line, rawInt pos.col, .ref c']).toList = ps.toList ++ [rawInt pos.line, rawInt pos.col, .ref c'] := by simp
    refine h h'.objs.size c' ((X.mg "__name__").getD .none) ctv _ _ I1 ⟨fun b o hb e => ?_, ps, ps ++ #[rawInt pos.line, rawInt pos.col, .ref c'], hP, ?_, ?_, fun p' cv hcv => ?_⟩ (Heap.get?_push_size _ rfl) ?_ (out _ hsz) upd_same
    · rw [upd_ne (ne_of_none e nC), upd_ne hb]
      exact e
    · rw [upd_ne nPc, upd_same]
    · rw [eL]
      exact PySem.TriplesOk_snoc _ _ _ _ ht
    · rw [eL] at hcv
      rcases among_app _ ht hcv with z | z
      · exact .inl z
      · exact .inr ⟨c', z, nC, upd_same⟩
    · have n1 : h'.objs.size ≠ c' := Nat.ne_of_gt hlt
      have n2 : h'.objs.size ≠ P := Nat.ne_of_gt (Nat.lt_of_lt_of_le (Heap.lt_size hP') hsz)
      rw [upd_ne n1, upd_ne n2]
      exact I.hok.fresh hsz
end
/-- the reading of a lambda that is handed on: P the maker's table -/
def tLamN (P : Addr) (q : Str) (TT : (XK → Hp → VK → Prop) → Hp → VK → Prop) (t : XK → TE) : TE := fun σ H Q =>
  (∃ ps : Array Value, H P = some (.tbl ps) ∧ TriplesOk ps.toList ∧ ∀ (pos : Pos) (cv : Value), codeAmong pos ps.toList = some cv → ∃ c', cv = .ref c' ∧ H c' = some (CodeO c' q)) ∧
  ∀ H1, Made P q H H1 → TT (fun E H' Q' => t E σ H' Q') H1 Q
/-- what a def makes of the lambda that it gets and calls -/
def GivesN (X : Cx) (Ng : List Str) (x : Str) (sg : Scope) (g : Addr) (cdg : Value) (bg : List Stmt) (a : Str) (q : Str) (k : Nat) (TT : (XK → Hp → VK → Prop) → Hp → VK → Prop) : Prop :=
  ∀ (f c' : Addr) (s : Shared) (H : Hp) (Q : VK) (tl : XK → Hp → VK → Prop), Room (k + 1) (X.A.deeper (envOfC x sg s.heap.objs.size g cdg)) →
    (∀ (W : WX) (pn : List (Addr × Obj)) (xe : Value → Shared → Prop) (E : XK) (p1 p2 : Pos), L2N.Takes ((cxOf C8.CX0 X.prog X.w X.K X.mg X.base Ng x sg g cdg X.A X.stack s H C8.E0).tr pn xe) W → (∀ cls d σ' H', E cls d H' → W cls d σ' H') →
      PE ((cxOf C8.CX0 X.prog X.w X.K X.mg X.base Ng x sg g cdg X.A X.stack s H C8.E0).tr pn xe) (.Call (.Name a p1) [] [] p2) (fun σZ HZ Q => σZ[0]? = some (some (.ref f)) ∧ HZ c' = some (CodeO c' q) ∧ tl E HZ Q)) →
    H c' = some (CodeO c' q) → TT tl H Q →
    ∃ t, PSs (cxOf C8.CX0 X.prog X.w X.K X.mg X.base Ng x sg g cdg X.A X.stack s H C8.E0).nox bg t ∧ t { nx := fun _ H' => Q .non H', rt := Q } (L2.start Ng [.ref f]) H
section
variable {X : Cx}
/-- x(lambda: body) -/
theorem pe_lamN {TT : (XK → Hp → VK → Prop) → Hp → VK → Prop} {x a : Str} {g c P : Addr} {k : Nat} {st : Stmt} {fd : FuncData} {Ng : List Str}
    {params : Arguments} {body : Expr} {scope : Scope} {t : XK → TE} {p lpos pos : Pos} (F : Fun X.K x x st g fd) (hg : Gl X x) (hm : X.mg x = some (.ref g)) (hb : L2.Binds X.K fd [a] []) (Sg : FnScope Ng [a] (defScope st)) (hNg : Ng[0]? = some a) (hva : Vis (defScope st) a)
    (hG : ∀ cdv, GivesN X Ng x (defScope st) g cdv (defBody st) a (X.env.qual ++ "<lambda>") k TT)
    (TB : TabB X.base X.mg c P) (hcode : X.env.code = .ref c) (hr : Room (k + 2) X.A) (L : LamS X.env.scope scope) (hdef : defaultsOf params X.env = ([], []))
    (hbind : ∀ (q : Str) (cl : List (Str × Addr)) (pm cv ctv : Value), bindArgs (PySem.W.kla_fn "<lambda>" q params body scope cl pm cv ctv) ⟨[], []⟩ = pure [])
    (hbody : ∀ (A : Around) (outer : List Env) (s : Shared) (H : Hp) (E : XK) (f c' : Addr), Room k (A.deeper (lamEnv X scope s.heap.objs.size f c')) → PE (lamCxN X A outer s H E scope f c') body (t E))
    (hdb : (x == ("__debug__" : Str)) = false := by decide) (hd : (a == ("__debug__" : Str)) = false := by decide) (hcd : (a == ("__classdict__" : Str)) = false := by decide) :
    PE X (.Call (.Name x p) [.Lambda params body scope lpos] [] pos) (tLamN P (X.env.qual ++ "<lambda>") TT t) := by
  refine ⟨fun pins s σ H Q I h => ?_⟩
  obtain ⟨oc, od, kV, doc, pm, an, cdv, ct, osl, hfd, lk, hcg⟩ := F.ex
  rw [hfd] at lk hb
  obtain ⟨⟨ps, hP, ht, hall⟩, h⟩ := h
  refine wpAny_Call_Name_kw (ld_glob I hg hm ?_ hdb)
  refine PySem.W.callWith_K (h₀ := X.base) I.ok.mod.kin F.kp ?_ (by rfl) (by rfl)
  show wpAny _ _ (spliced ((false, eval (.Lambda params body scope lpos) X.env) :: backTo pos (starEach [] X.env))) _ _ s
  refine Calls.spliced_cons (lam_make3 I TB hcode hP ht hall hdef (L.has I.ok) fun f c' pm' ctv H1 s' I1 eN hf hfn hfr hco => ?_)
  refine Calls.spliced_nil ⟨I1.kIn, ?_⟩
  have run : codeAny (model X.prog X.w) X.A (.call (.ref g) ⟨[.ref f], []⟩) (CR C8.CX0 X.stack X.prog X.w H1 s' Q C8.E0) s' := by
    refine run_ofS (N := Ng) (ps := [a]) (us := [.ref f]) (vs := [.ref f]) lk hcg Sg hr I1.env0 (hb s' [.ref f] I1.kIn rfl) (.cons rfl .nil) rfl fun hr' => ?_
    obtain ⟨t', ht', hq'⟩ := hG cdv f c' s' H1 Q (fun E H' Q' => t E σ H' Q') hr' (fun W pn xe E p1 p2 tk hW => pe_actN (i := 0) I1 L hf hfn hfr (hbind _ _ _ _ _) tk hW hr' (fun A outer s H hr2 => hbody A outer s H E f c' hr2) hNg hva hd hcd) hco (h H1 eN)
    exact ⟨t', ht'.nox, hq'⟩
  refine wpAny_call (codeAny_mono run fun r s2 hq => ?_)
  cases r with
  | error e => exact (show False from hq).elim
  | ok fl =>
    cases fl with
    | ret u => exact I1.after hq
    | next => exact False.elim hq
    | brk => exact False.elim hq
    | cont => exact False.elim hq
end
end Wv

namespace Wv
open PySem PySem.Spec PyProof.Rows L2 HotX LamX

/-! # a call that is refused, through the law's door, over data -/
/-- the def raises its class C (no field) where its arguments are Bad; nothing has changed then -/
def spRaise (M : Mo) (Bad : List D → Prop) (C : Addr) : Sp := fun vs H _ E => ∃ Z ds L, Wd (M.z Z) L H ∧ Reps (M.z Z) L H ds vs ∧ Bad ds ∧ ∀ H', Pers L H L H' → Wd (M.z Z) L H' → E (.ref C) none H'
/-- the def that gets the lambda hands back r, a text -/
def TTr (C : Addr) (r : Str) : (XK → Hp → VK → Prop) → Hp → VK → Prop := fun tl H Q => ∀ Q', tl (fun cls d H' => cls = .ref C ∧ d = none ∧ ∀ H'', (∀ b o, H' b = some o → H'' b = some o) → Q (.str r) H'') H Q'
def aDoor (P : Addr) (q : Str) (tr : ATA) (Bad : List D → Prop) (r : Str) : AT := fun Δ L K => L P = some (.tab q) ∧ tr Δ L fun ds L1 => Bad ds ∧ K (.str r) L1
theorem codeO_dct {M : Mo} {c p : Addr} {q : Str} {xs : List (NestedKey × Addr × Value)} : CodeO c q ≠ dctO M p xs ∨ c ≠ p := by
  by_cases e : c = p
  · subst e
    refine .inl fun h => ?_
    unfold CodeO dctO at h
    injection h with h
    have hx : ∃ hh : Heap, ∃ (oc : Obj) (vs : Array Value) (t : Tok), hh.get? c = some oc ∧ oc.data = .fields vs ∧ vs[1]? = some (.str q t) := by
      have key : ∀ n : Nat, ∃ hh : Heap, hh.objs.size = n := fun n => by
        induction n with
        | zero => exact ⟨{ objs := #[] }, rfl⟩
        | succ n ih => obtain ⟨hh, e⟩ := ih; exact ⟨hh.push { cls := .none, data := .fields #[] }, by rw [Heap.size_push, e]⟩
      obtain ⟨hh, e⟩ := key c
      refine ⟨hh.push { cls := .none, data := .fields #[.none, .str q 0] }, { cls := .none, data := .fields #[.none, .str q 0] }, _, 0, ?_, rfl, rfl⟩
      have := Heap.get?_push_size hh (o := { cls := .none, data := .fields #[.none, .str q 0] }) rfl
      rw [e] at this
      exact this
    obtain ⟨hh, hx⟩ := hx
    have h2 : DctRaw M.P M.w hh c xs := by
      have := congrFun h hh
      rw [← this]
      exact hx
    obtain ⟨oc, vs, t, h3, h4, _⟩ := hx
    obtain ⟨o, es, ep, h5, _, h6, _⟩ := h2
    rw [h3] at h5
    cases h5
    rw [h4] at h6
    cases h6
  · exact .inr e
/-- what bears a code object's word is free -/
theorem code_free {M : Mo} {L : Lg} {H : Hp} {c : Addr} {q : Str} (w : Wd M L H) (e : H c = some (CodeO c q)) : Free M L c := by
  constructor
  · cases hl : L c with
    | none => rfl
    | some cell =>
      have k := w.cell c cell hl
      cases cell with
      | lst ds => obtain ⟨xs, x, _⟩ := k; rw [e] at x; unfold CodeO at x; cases x
      | dct kvs =>
        obtain ⟨xs, x, _⟩ := k
        rw [e] at x
        rcases codeO_dct (M := M) (c := c) (p := c) (q := q) (xs := xs) with z | z
        · exact (z (Option.some.inj x)).elim
        · exact (z rfl).elim
      | ins C fs => obtain ⟨dx, vs, x, _⟩ := k; rw [e] at x; unfold CodeO at x; cases x
      | tab q' => obtain ⟨ps, x, _⟩ := k; rw [e] at x; unfold CodeO at x; cases x
  · intro z
    obtain ⟨_, xs, x⟩ := w.hid c z
    rw [e] at x
    unfold CodeO at x
    cases x
/-- the ledger behind the making of a lambda -/
theorem Wd.made {M : Mo} {L : Lg} {H H1 : Hp} {P : Addr} {q : Str} (w : Wd M L H) (hL : L P = some (.tab q)) (m : Made P q H H1) : Pers L H L H1 ∧ Wd M L H1 := by
  have p1 : Pers L H L H1 := fun a l o e => ⟨l, m.keep a o (fun z => by subst z; rw [hL] at l; cases l) e⟩
  refine ⟨p1, ⟨fun a c e => ?_, fun a z => ?_⟩⟩
  · by_cases ha : a = P
    · subst ha
      rw [hL] at e
      cases e
      obtain ⟨ps0, x0, t0, r0⟩ := w.cell a _ hL
      obtain ⟨ps, ps', x, x', t', r'⟩ := m.tab
      rw [x0] at x
      cases x
      refine ⟨ps', x', t', fun pos cv hc => ?_⟩
      rcases r' pos cv hc with h | ⟨c, e1, e2, e3⟩
      · obtain ⟨c, e1, e2, f⟩ := r0 pos cv h
        exact ⟨c, e1, (p1 c f.1 _ e2).2, f⟩
      · exact ⟨c, e1, e3, w.fresh e2⟩
    · exact (w.cell a c e).mono p1 fun o x => m.keep a o ha x
  · obtain ⟨l, xs, x⟩ := w.hid a z
    exact ⟨l, xs, (p1 a l _ x).2⟩
section
variable {X : Cx} {e : Expr} {tr : ATA}
theorem ae_door {P : Addr} {q : Str} {Bad : List D → Prop} {C : Addr} {r : Str} (h : PE X e (tLamN P q (TTr C r) (fun E => tCallS (spRaise X.mo Bad C) (fun _ => E) (liftA X.mo tr)))) : AE X e (aDoor P q tr Bad r) := peW h fun σ H Q => by
  rintro ⟨Z, Δ, L, K, w, s, ⟨hL, t⟩, qq⟩
  obtain ⟨ps, x, tt, rr⟩ := w.cell P _ hL
  refine ⟨⟨ps, x, tt, fun pos cv hc => let ⟨c, e1, e2, _⟩ := rr pos cv hc; ⟨c, e1, e2⟩⟩, fun H1 m Q' => ?_⟩
  obtain ⟨p1, w1⟩ := w.made hL m
  refine ⟨Z, Δ, L, _, w1, s.mono p1, t, fun ds L2 vs H2 p2 w2 r2 k2 => ?_⟩
  refine ⟨Z, ds, L2, w2, r2, k2.1, fun H3 p3 w3 => ⟨rfl, rfl, fun H4 ext => ?_⟩⟩
  have p4 : Pers L2 H3 L2 H4 := fun a l o e => ⟨l, ext a o e⟩
  exact qq _ _ _ _ (((p1.trans p2).trans p3).trans p4) (w3.ext ext) (.str _) k2.2
end
/-! ## the law's end, with the table of its code object -/
section
variable {P : Program} {w : World} {K : PySem.W.Frag} {mg : Str → Option Value} {base : Heap} {x : Str} {st : Stmt} {N ps : List Str} {k : Nat} {A : ASp}
theorem fnOfC {f : Addr} {oc cdv kV doc pm ct : Value} {od an : Option Addr} {osl : Array (Option Value)} (lk : K.lookup f = some ⟨oc, od, .func (PySem.W.fnOf x x (defArgs st) (defBody st) (defScope st) .none kV doc pm an cdv ct), osl⟩) (hcd : PySem.W.codeIn K cdv x = true)
    (S : FnScope N ps (defScope st)) (len : ∀ ds L Kk, A ds L Kk → ds.length = ps.length) {t : ATS}
    (hbody : ∀ (Ar : Around) (outer : List Env) (s : Shared) (H : Hp) (E : XK), Room k (Ar.deeper (envOfC x (defScope st) s.heap.objs.size f cdv)) →
      ASs (cxOf CX0 P w K mg base N x (defScope st) f cdv Ar outer s H E).nox (defBody st) t)
    (rd : ∀ ds L Kk, A ds L Kk → t { nx := fun _ L' => Rt Kk .non L', rt := Rt Kk } (startD N ds) L) :
    FnOk P w K mg base CX0 (k + 1) f (PySem.W.fnOf x x (defArgs st) (defBody st) (defScope st) .none kV doc pm an cdv ct) ps (spOf (mo P w K) A) := by
  refine fn_of lk hcd S (fun vs H Q E h => ?_) (fun Ar outer s H vs Q E hr h => ?_)
  · obtain ⟨Z, ds, L, Kk, _, r, a, _⟩ := h
    rw [← r.length]
    exact len _ _ _ a
  · obtain ⟨Z, ds, L, Kk, wd, r, a, q⟩ := h
    have q2 := q.rt
    refine ⟨_, (hbody Ar outer s H E hr).nox, Z, startD N ds, L, _, wd, sl_start r, rd _ _ _ a, ?_, q2, ?_, ?_⟩
    · intro Δ' L' σ' H' p' w' s' h'
      exact q2 _ _ _ _ p' w' .non h'
    · intro _ _ _ _ _ _ _ h'
      exact h'.elim
    · intro _ _ _ _ _ _ _ h'
      exact h'.elim
end
theorem walk_tab {l : PySem.W.OpenLaw} {n k : Nat} {q : Program} {loose : List Str} {XP : (Str → Option Value) → Heap → Prop} {YP : World → Heap → Prop} {d : DefRec} {K : Params → PySem.W.Frag} {CX : World → CXT} {x : Str}
    (hn : l.most = some n) (hn2 : n ≤ sizeLine) (hdf : d.params.defaults = []) (hr : Room k callerA) (hY : ∀ (w : World) (h : Heap), YP w h → (K w.params).In h)
    (F : ∀ (w : World) (mg : Str → Option Value) (fa : Addr) (h : Heap), YP w h → (K w.params).In h → h.Ns mainGlobals mg → mg d.name = some (.ref fa) →
      (∀ (y : Str) (c P : Addr) (d' : DefRec), (recsOf q).find? (fun e => e.name == y) = some d' → PySem.W.tabIn (K w.params) y = some (c, P) → PySem.W.CodeHd h c P ∧ h.get? P = some (PySem.W.tabObj #[])) → LawAtS l w (K w.params) (CX w) k n x mg fa h)
    (hCX : ∀ (w : World) (H : Hp) (s : Shared) (e : Value) (s' : Shared), CX w [] H s (fun _ _ _ => False) e s' → False) :
    PySem.W.WalkO q loose XP YP l.row.toRowW d [] (fun f vs => PySem.call f vs) := by
  refine Att.attach_callB hn hdf fun w s₀ s₁ mg mb fa o pm cd doc a vs ns G Y ho hd hcd hmg hobj hints hlen hbits hg => ?_
  have KX := hY w _ Y
  obtain ⟨fd, cs, sp, hT, nT, C, hb, hsp, hF⟩ := F w mg fa _ Y KX G.T.g hmg fun y c P d' h1 h2 => PySem.W.tab_of G.T KX h1 h2
  exact law_callTs KX G.T.g G.T.b G.T.builtins G.T.nolimit hg hT nT C G.T.bmain hobj hints (Nat.le_trans hlen hn2) hr hF hb (fun H hH hS => hsp H a ns hlen hbits hH hS) fun H e s' => hCX w H s₁ e s'
end Wv

namespace Wv
open PySem PySem.Spec PyProof.Rows L2
/-! # len(set(x)), x a list of ints -/
def lenSetI (ns : List Int) : Nat := (PyProof.Rows.firstMet (fun i => ns.getD i 0) ns.length).length
theorem lenSetI_nd {ns : List Int} (h : ns.Nodup) : lenSetI ns = ns.length := by
  unfold lenSetI
  rw [RZ.firstMet_nodup h ns.length (Nat.le_refl _), List.take_length]
theorem lenSetI_le (ns : List Int) : lenSetI ns ≤ ns.length := PyProof.Rows.firstMet_length_le _ _
def tLenInts (K : PySem.W.Frag) (ta : TE) : TE := fun σ H Q => ta σ H fun x H1 => ∃ (l : Addr) (ns : List Int), x = .ref l ∧ SqL K H1 l (ns.map V.int) ∧ ns.length ≤ 4000 ∧ Q (.int (lenSetI ns : Nat)) H1
section
variable {X : Cx} {a : Expr} {ta : AT}
theorem pe_lenInts {tb : TE} {p p2 q pos : Pos} (hg : Gl X "len") (hm : X.mg "len" = none) (hg2 : Gl X "set") (hm2 : X.mg "set" = none) (ha : PE X a tb) (hc : X.calm = true := by rfl)
    (na : starEach [a] X.env = (false, eval a X.env) :: starEach [] X.env := by rfl) : PE X (.Call (.Name "len" p) [.Call (.Name "set" p2) [a] [] q] [] pos) (tLenInts X.K tb) := by
  refine ⟨fun pins s σ H Q I h => ?_⟩
  refine Call_ (ld_blt I hg hm boot_len (PyProof.Rows.callWith_builtin1 (PyProof.Rows.args_cons ?_ rfl) rfl rfl))
  refine Call_ (ld_blt I hg2 hm2 boot_set (PyProof.Rows.callWith_type1 (PyProof.Rows.args_cons (thn (ha.run pins s σ H _ I h) fun v s1 ⟨x, H1, I1, r1, q1⟩ => PyProof.Rows.args_nil ?_) na) na rfl))
  obtain ⟨l, ns, rfl, hq, hl, q1⟩ := q1
  cases r1
  obtain ⟨its, r, pl, hz⟩ := I1.list hq
  have hsz : its.toArray.size = ns.length := by rw [List.size_toArray, ← r.length, List.length_map]
  have hle := lenSetI_le ns
  refine call_set_list (I1.ok.hd hc) pl.isList (by simpa using RZ.intsAre_vals r) (by rw [hsz]; unfold scanBound; omega) fun h' tk hS hk => PyProof.Rows.args_nil ?_
  rw [hsz] at hS
  obtain ⟨o, es, ep, t, ho, hex, hd, _, _, _, hf, hn⟩ := hS
  have hn2 : es.size = lenSetI ns := hn
  have I2 : Inv X pins σ H1 { s1 with heap := h', toks := tk } := I1.kept fun b o e => hk b o (Heap.lt_size e) e
  exact call_len_set ho hex hd hf (by rw [hn2]; omega) ⟨.int (lenSetI ns : Nat), H1, I2.tok _, ⟨_, by rw [hn2]⟩, q1⟩
def aLenSetI (t : AT) : AT := fun Δ L K => t Δ L fun d L1 => match see L1 d with
  | .lst ys => match asInts ys with
    | some ns => ns.length ≤ 4000 ∧ K (.int (lenSetI ns : Nat)) L1
    | none => False
  | _ => False
theorem ae_lenSetI {p p2 q pos : Pos} (hg : Gl X "len") (hm : X.mg "len" = none) (hg2 : Gl X "set") (hm2 : X.mg "set" = none) (ha : AE X a ta) (hc : X.calm = true := by rfl)
    (na : starEach [a] X.env = (false, eval a X.env) :: starEach [] X.env := by rfl) : AE X (.Call (.Name "len" p) [.Call (.Name "set" p2) [a] [] q] [] pos) (aLenSetI ta) := peW (pe_lenInts hg hm hg2 hm2 ha hc na) fun σ H Q => by
  rintro ⟨Z, Δ, L, K, w, s, t, g⟩
  refine ⟨Z, Δ, L, _, w, s, t, fun x L1 v1 H1 p1 w1 r1 t1 => ?_⟩
  split at t1
  · rename_i ys e
    split at t1
    · rename_i ns e2
      rw [asInts_eq e2] at e
      obtain ⟨b, zs, rfl, h, rs⟩ := rep_lst (M := X.mo.z Z) w1 r1 e
      rw [rs.ints] at h
      exact ⟨b, ns, rfl, h, t1.1, g _ _ _ _ p1 w1 (.int _) t1.2⟩
    · exact t1.elim
  · exact t1.elim
end
end Wv

namespace Wv
open PySem PySem.Spec PyProof.Rows L2 HotX LamX

/-! # a def that raises its class at its first test -/
/-- what making and raising C asks of the frag -/
structure RaiseC (K : PySem.W.Frag) (mg : Str → Option Value) (y : Str) (C : Addr) : Prop where
  g : mg y = some (.ref C)
  ex : PySem.W.excIn K C [.type "ValueError", .type "Exception", .type "BaseException", .type "object"] "ValueError.__new__" = true
  kp : PySem.W.keepIn K (.ref C) = true
  sub : PySem.W.subIn K (.ref C) (.type "BaseException") = some true
  ty : PySem.W.typeIn K (.ref C) = some (.type "type")
section
variable {P : Program} {w : World} {K : PySem.W.Frag} {mg : Str → Option Value} {base : Heap}
theorem fn_bad {x y m : Str} {j : Nat} {st : Stmt} {f C : Addr} {fd : FuncData} {N ps : List Str} {k : Nat} {Bad : List D → Prop} {tt : ATT} {e : Expr} {rest : List Stmt} {p p2 pos pos' pos'' : Pos}
    (F : Fun K x x st f fd) (S : FnScope N ps (defScope st)) (len : ∀ ds, Bad ds → ds.length = ps.length)
    (hst : defBody st = .If e [.Raise (some (.Call (.Name y p) [.Constant (.str m) j p2] [] pos)) none pos'] [] pos'' :: rest)
    (he : ∀ (cdv : Value) (A : Around) (outer : List Env) (s : Shared) (H : Hp) (E : XK), Room k (A.deeper (envOfC x (defScope st) s.heap.objs.size f cdv)) → ATE (cxOf (L2N.CX P w) P w K mg base N x (defScope st) f cdv A outer s H E) e tt)
    (rd : ∀ ds L, Bad ds → tt (startD N ds) L fun b L1 => b = true ∧ L1 = L) (R : RaiseC K mg y C) (hg : ∀ (cdv : Value) (A : Around) (outer : List Env) (s : Shared) (H : Hp) (E : XK), Gl (cxOf (L2N.CX P w) P w K mg base N x (defScope st) f cdv A outer s H E) y := by intros; rfl) (hdb : (y == ("__debug__" : Str)) = false := by decide) :
    FnOk P w K mg base (L2N.CX P w) (k + 1) f fd ps (spRaise (mo P w K) Bad C) := by
  obtain ⟨oc, od, kV, doc, pm, an, cdv, ct, osl, rfl, lk, hcd⟩ := F.ex
  refine fn_of lk hcd S (fun vs H Q E h => ?_) (fun Ar outer s H vs Q E hr h => ?_)
  · obtain ⟨Z, ds, L, _, r, b, _⟩ := h
    rw [← r.length]
    exact len _ b
  · obtain ⟨Z, ds, L, wd, r, b, q⟩ := h
    rw [hst]
    refine ⟨_, pss_cons (ps_if (he cdv Ar outer s H E hr) (pss_one (L2N.ps_raise rfl (L2N.takes_of rfl rfl rfl rfl) (L2N.pmk_own PySem.F.excBase_ValueError R.ex R.g R.kp (raises_own R.sub R.ty) (hg ..) hdb))) pss_nil) (⟨fun _ _ _ _ _ _ h => h.elim⟩ : PSs _ rest (fun _ _ _ => False)), ?_⟩
    refine ⟨Z, startD N ds, L, _, wd, sl_start r, rd _ _ b, fun c L1 H1 p1 w1 t1 => ?_⟩
    obtain ⟨rfl, rfl⟩ := t1
    exact q _ p1 w1
end
end Wv

namespace Wv
open PySem PySem.Spec PyProof.Rows L2

/-! # k09's mathematics -/
def fromD (x : D) (lo hi : Int) : Bool := match x with | .int v => decide (lo ≤ v) && decide (v ≤ hi) | _ => false
def nrefD : D → Prop | .ref _ => False | _ => True
def plainD : D → Prop | .ref _ => False | .tup ds => ds.length ≤ 1000 ∧ ∀ d ∈ ds, nrefD d | _ => True
def intsOf : List D → List Int
  | [] => []
  | .int v :: ds => v :: intsOf ds
  | _ :: ds => intsOf ds
def hidEl (n : Nat) (d : D) : Bool := isN d || fromD d 1 n
def hidB : D → Bool
  | .tup ds => (decide (1 ≤ ds.length) && decide (ds.length ≤ 7)) && (ds.all (hidEl ds.length) && decide ((intsOf ds).length = lenSetI (intsOf ds)))
  | _ => false
theorem ints_kept {n : Nat} : ∀ {ds : List D}, ds.all (hidEl n) = true → (ds.flatMap fun d => if isN d then [] else [d]) = (intsOf ds).map .int
  | [], _ => rfl
  | d :: ds, h => by
    rw [List.all_cons, Bool.and_eq_true] at h
    have ih := ints_kept h.2
    rw [List.flatMap_cons, ih]
    cases d with
    | non => rfl
    | int v => rfl
    | bl b => have := h.1; simp [hidEl, isN, fromD] at this
    | str b => have := h.1; simp [hidEl, isN, fromD] at this
    | tup b => have := h.1; simp [hidEl, isN, fromD] at this
    | lst b => have := h.1; simp [hidEl, isN, fromD] at this
    | ref b => have := h.1; simp [hidEl, isN, fromD] at this
theorem ints_len : ∀ ds : List D, (intsOf ds).length ≤ ds.length
  | [] => Nat.le_refl _
  | d :: ds => by
    have ih := ints_len ds
    cases d <;> simp only [intsOf, List.length_cons] <;> omega
def oD : Option Int → D
  | some k => .int k
  | none => .non
def tD (r : List Int) : D := .tup (r.map .int)
def rgI (n : Nat) : List Int := (List.range n).map fun i => (1 : Int) + (i : Nat)
theorem rgI_D (n : Nat) : rgD 1 n = (rgI n).map .int := by unfold rgD rgI; rw [List.map_map]; rfl
def ordC (h : List (Option Int)) (one : Option Int) (row : List Int) (k : Int) : Bool := (!decide (k ∈ row)) && (decide (one = some k) || (decide (one = none) && !decide (some k ∈ h)))
theorem ordC_iff {h : List (Option Int)} {one : Option Int} {row : List Int} {k : Int} : ordC h one row k = true ↔ k ∉ row ∧ (one = some k ∨ (one = none ∧ some k ∉ h)) := by
  unfold ordC; simp
theorem ordC_iff2 {h : List (Option Int)} {one : Option Int} {row : List Int} {k : Int} : ordC h one row k = true ↔ k ∉ row ∧ (one = none ∨ one = some k) ∧ (one = some k ∨ some k ∉ h) := by
  rw [ordC_iff]
  constructor
  · rintro ⟨a, b | ⟨b, c⟩⟩
    · exact ⟨a, .inr b, .inl b⟩
    · exact ⟨a, .inl b, .inr c⟩
  · rintro ⟨a, b, c⟩
    refine ⟨a, ?_⟩
    rcases c with c | c
    · exact .inl c
    · rcases b with b | b
      · exact .inr ⟨b, c⟩
      · exact .inl b
def addOne (row : List Int) (k : Int) : List Int := row ++ [k]
def ordGo (h : List (Option Int)) (fs : List (List Int)) (one : Option Int) : List (List Int) := fs.flatMap fun row => ((rgI h.length).filter (ordC h one row)).map (addOne row)
def ordTo (h : List (Option Int)) (i : Nat) : List (List Int) := (h.take i).foldl (ordGo h) [[]]
def orders (h : List (Option Int)) : List (List Int) := h.foldl (ordGo h) [[]]
def fillGo (h : List (Option Int)) (fs : List (List Int)) (one : Option Int) : List (List Int) := (ordGo h fs one).filter wovenB
def fillTo (h : List (Option Int)) (i : Nat) : List (List Int) := (h.take i).foldl (fillGo h) [[]]
theorem fold_snoc {α β : Type} {g : β → α → β} {b : β} {h : List α} {i : Nat} {x : α} (e : h[i]? = some x) : (h.take (i + 1)).foldl g b = g ((h.take i).foldl g b) x := by
  rw [List.take_add_one, e]
  simp
/-- a row of the search: numbers 1..n, at most i of them -/
def RowIn (n i : Nat) (r : List Int) : Prop := r.length = i ∧ ∀ x ∈ r, 1 ≤ x ∧ x ≤ n
theorem mem_rgI {n : Nat} {x : Int} (h : x ∈ rgI n) : 1 ≤ x ∧ x ≤ n := by
  obtain ⟨i, hi, rfl⟩ := List.mem_map.mp h
  rw [List.mem_range] at hi
  omega
theorem ordGo_in {h : List (Option Int)} {fs : List (List Int)} {one : Option Int} {i : Nat} (H : ∀ r ∈ fs, RowIn h.length i r) : ∀ r ∈ ordGo h fs one, RowIn h.length (i + 1) r := by
  intro r hr
  obtain ⟨row, h1, h2⟩ := List.mem_flatMap.mp hr
  obtain ⟨k, h3, rfl⟩ := List.mem_map.mp h2
  have h4 := mem_rgI (List.mem_filter.mp h3).1
  obtain ⟨a, b⟩ := H row h1
  refine ⟨by unfold addOne; rw [List.length_append, a]; rfl, fun x hx => ?_⟩
  rcases List.mem_append.mp hx with hx | hx
  · exact b x hx
  · rw [List.mem_singleton] at hx; subst hx; exact h4
theorem ordGo_len (h : List (Option Int)) (fs : List (List Int)) (one : Option Int) : (ordGo h fs one).length ≤ fs.length * h.length := by
  refine len_flat fun row _ => ?_
  rw [List.length_map]
  refine Nat.le_trans (List.length_filter_le _ _) ?_
  unfold rgI
  rw [List.length_map, List.length_range]
  exact Nat.le_refl _
theorem ordTo_in {h : List (Option Int)} : ∀ i, i ≤ h.length → ∀ r ∈ ordTo h i, RowIn h.length i r
  | 0, _ => fun r hr => by
    have : r = [] := by simpa [ordTo] using hr
    subst this
    exact ⟨rfl, fun x hx => by cases hx⟩
  | i + 1, hi => by
    have e : h[i]? = some h[i] := List.getElem?_eq_getElem hi
    unfold ordTo
    rw [fold_snoc e]
    exact ordGo_in (ordTo_in i (Nat.le_of_lt hi))
theorem fillTo_in {h : List (Option Int)} : ∀ i, i ≤ h.length → ∀ r ∈ fillTo h i, RowIn h.length i r
  | 0, _ => fun r hr => by
    have : r = [] := by simpa [fillTo] using hr
    subst this
    exact ⟨rfl, fun x hx => by cases hx⟩
  | i + 1, hi => by
    have e : h[i]? = some h[i] := List.getElem?_eq_getElem hi
    unfold fillTo
    rw [fold_snoc e]
    intro r hr
    exact ordGo_in (fillTo_in i (Nat.le_of_lt hi)) r (List.mem_filter.mp hr).1
theorem pow7 {n i : Nat} (hn : n ≤ 7) (hi : i ≤ 7) : n ^ i ≤ 823543 := Nat.le_trans (Nat.pow_le_pow_left hn i) (Nat.le_trans (Nat.pow_le_pow_right (by decide) hi) (by decide))
theorem ordTo_len {h : List (Option Int)} : ∀ i, i ≤ h.length → (ordTo h i).length ≤ h.length ^ i
  | 0, _ => by simp [ordTo]
  | i + 1, hi => by
    have e : h[i]? = some h[i] := List.getElem?_eq_getElem hi
    unfold ordTo
    rw [fold_snoc e, Nat.pow_succ]
    exact Nat.le_trans (ordGo_len ..) (Nat.mul_le_mul_right _ (ordTo_len i (Nat.le_of_lt hi)))
theorem fillTo_len {h : List (Option Int)} : ∀ i, i ≤ h.length → (fillTo h i).length ≤ h.length ^ i
  | 0, _ => by simp [fillTo]
  | i + 1, hi => by
    have e : h[i]? = some h[i] := List.getElem?_eq_getElem hi
    unfold fillTo
    rw [fold_snoc e, Nat.pow_succ]
    exact Nat.le_trans (List.length_filter_le _ _) (Nat.le_trans (ordGo_len ..) (Nat.mul_le_mul_right _ (fillTo_len i (Nat.le_of_lt hi))))
theorem good_pre {s : List Int} : ∀ {r : List Int} {u v : Int}, goodB (r ++ s) u v = true → goodB r u v = true
  | [], _, _, _ => rfl
  | c :: r, u, v, h => by
    simp only [List.cons_append, goodB, Bool.or_eq_true, Bool.and_eq_true] at h ⊢
    rcases h with h | h
    · exact .inl ⟨h.1, good_pre h.2⟩
    · exact .inr ⟨h.1, good_pre h.2⟩
theorem ordGo_filter (h : List (Option Int)) (one : Option Int) : ∀ fs : List (List Int), (ordGo h (fs.filter wovenB) one).filter wovenB = (ordGo h fs one).filter wovenB
  | [] => rfl
  | row :: fs => by
    have ih := ordGo_filter h one fs
    unfold ordGo at ih ⊢
    rw [List.flatMap_cons, List.filter_append]
    by_cases w : wovenB row = true
    · rw [List.filter_cons_of_pos w, List.flatMap_cons, List.filter_append, ih]
    · rw [List.filter_cons_of_neg w, ih]
      have e : List.filter wovenB (((rgI h.length).filter (ordC h one row)).map (addOne row)) = [] := by
        rw [List.filter_eq_nil_iff]
        intro r hr hw
        obtain ⟨k, _, rfl⟩ := List.mem_map.mp hr
        exact w (good_pre hw)
      rw [e, List.nil_append]
theorem fillTo_eq {h : List (Option Int)} : ∀ i, i ≤ h.length → fillTo h i = (ordTo h i).filter wovenB
  | 0, _ => rfl
  | i + 1, hi => by
    have e : h[i]? = some h[i] := List.getElem?_eq_getElem hi
    unfold fillTo ordTo
    rw [fold_snoc e, fold_snoc e]
    have ih := fillTo_eq i (Nat.le_of_lt hi)
    unfold fillTo ordTo at ih
    rw [ih]
    exact ordGo_filter h _ _
theorem ordTo_all (h : List (Option Int)) : ordTo h h.length = orders h := by unfold ordTo orders; rw [List.take_length]
def fillsOf (h : List (Option Int)) : List (List Int) := (orders h).filter wovenB
theorem fillTo_all (h : List (Option Int)) : fillTo h h.length = fillsOf h := by rw [fillTo_eq _ (Nat.le_refl _), ordTo_all]; rfl
/-- the fits of the law are the woven -/
theorem fits_orders (h : List (Option Int)) (hn : h.length ≤ 7) : (orders h).filter (fun r => goodB r (-1) 10000000000) = fillsOf h := by
  unfold fillsOf
  refine List.filter_congr fun r hr => ?_
  rw [← ordTo_all] at hr
  obtain ⟨_, b⟩ := ordTo_in _ (Nat.le_refl _) r hr
  exact fits_woven fun x hx => by have := b x hx; omega
def firstD (rs : List (List Int)) : D := match rs with | [] => .non | r :: _ => tD r
/-- the counts -/
def midGo (n : Int) (f : Int) (i : Nat) : Int := f * (n + (1 + (i : Nat))) / (1 + (i : Nat))
def midN (n : Nat) : Int := (List.range n).foldl (midGo n) 1
def dblTo (n : Nat) : Int := (List.range n).foldl (fun f i => 2 * f + midN i) 0
def rowsN (n : Nat) : Int := midN n - dblTo n
def lmid : Nat → Int
  | 0 => 1
  | k + 1 => lmid k * 2 * (2 * (1 + (k : Nat)) - 1) / (1 + (k : Nat))
def ldbl : Nat → Int
  | 0 => 0
  | k + 1 => 2 * ldbl k + lmid k
theorem mids_ok : ∀ n, n < 61 → rowsN n = lmid n - ldbl n := by decide +kernel
theorem rows_7 : (List.range 7).map (fun i : Nat => rowsN i) = [1, 1, 2, 6, 22, 86, 340] := by decide +kernel
theorem counts_6 : ∀ m, m < 6 → ((fillsOf (List.replicate (m + 1) none)).length : Int) = rowsN (m + 1) := by decide +kernel
theorem fills_2143 : fillsOf [some 2, some 1, some 4, some 3] = [] := by decide +kernel
/-! the tests of the search -/
theorem flat_ints (r : List Int) : (r.map D.int).all flatD = true := by rw [List.all_map, List.all_eq_true]; intro x _; rfl
theorem flat_oD (h : List (Option Int)) : (h.map oD).all flatD = true := by
  rw [List.all_map, List.all_eq_true]
  intro x _
  cases x <;> rfl
theorem flat_oD1 (o : Option Int) : flatD (oD o) = true := by cases o <;> rfl
theorem okD_oD (o : Option Int) (n : Nat) : okD n (oD o) = true := by cases o <;> cases n <;> rfl
theorem isN_oD (o : Option Int) : isN (oD o) = decide (o = none) := by cases o <;> rfl
theorem eqD_oD (o : Option Int) (k : Int) : eqD (oD o) (.int k) = decide (o = some k) := by
  cases o with
  | none => rfl
  | some v => unfold oD; rw [eqD_int]; simp
theorem inD_oD (k : Int) : ∀ h : List (Option Int), inD (.int k) (h.map oD) = decide (some k ∈ h)
  | [] => rfl
  | o :: h => by
    have ih := inD_oD k h
    unfold inD at ih ⊢
    rw [List.map_cons, List.any_cons, ih, eqD_oD, Bool.eq_iff_iff]
    simp only [Bool.or_eq_true, decide_eq_true_iff, List.mem_cons]
    exact ⟨fun a => a.imp Eq.symm id, fun a => a.imp Eq.symm id⟩
theorem inD_two (o : Option Int) (k : Int) : inD (oD o) [.non, .int k] = (decide (o = none) || decide (o = some k)) := by
  unfold inD
  cases o with
  | none => rfl
  | some v =>
    show (false || (eqD (.int k) (.int v) || false)) = _
    rw [eqD_int]
    have h1 : decide (some v = (none : Option Int)) = false := by simp
    have h2 : decide (k = v) = decide (some v = some k) := by rw [Bool.eq_iff_iff, decide_eq_true_iff, decide_eq_true_iff]; exact ⟨fun e => by rw [e], fun e => (Option.some.inj e).symm⟩
    rw [h1, h2]
    simp
theorem filt_snoc {α : Type} {p : α → Bool} {l : List α} {m : Nat} {x : α} (e : l[m]? = some x) : (l.take (m + 1)).filter p = (l.take m).filter p ++ if p x then [x] else [] := by
  rw [List.take_add_one, e, List.filter_append]
  cases hp : p x <;> simp [hp]
theorem rgI_get {n m : Nat} (h : m < n) : (rgI n)[m]? = some (1 + (m : Int)) := by
  unfold rgI
  rw [List.getElem?_map, List.getElem?_range h]
  rfl
theorem rgI_len (n : Nat) : (rgI n).length = n := by unfold rgI; rw [List.length_map, List.length_range]
theorem ordGo_snoc {h : List (Option Int)} {fs : List (List Int)} {one : Option Int} {j : Nat} {row : List Int} (e : fs[j]? = some row) : ordGo h (fs.take (j + 1)) one = ordGo h (fs.take j) one ++ ((rgI h.length).filter (ordC h one row)).map (addOne row) := by
  unfold ordGo
  rw [List.take_add_one, e, List.flatMap_append]
  simp
/-! masks of ranks -/
theorem intsOf_oD : ∀ os : List (Option Int), intsOf (os.map oD) = os.filterMap id
  | [] => rfl
  | none :: os => intsOf_oD os
  | some v :: os => by
    show v :: intsOf (os.map oD) = _
    rw [intsOf_oD os]
    rfl
theorem hid_mask {os : List (Option Int)} {rs : List Int} (h1 : 1 ≤ os.length) (h7 : os.length ≤ 7) (hs : (os.filterMap id).Sublist rs) (nd : rs.Nodup) (rg : ∀ x ∈ rs, 1 ≤ x ∧ x ≤ (os.length : Int)) : hidB (.tup (os.map oD)) = true := by
  have e : hidB (.tup (os.map oD)) = ((decide (1 ≤ (os.map oD).length) && decide ((os.map oD).length ≤ 7)) && ((os.map oD).all (hidEl (os.map oD).length) && decide ((intsOf (os.map oD)).length = lenSetI (intsOf (os.map oD))))) := rfl
  rw [e, intsOf_oD, List.length_map, lenSetI_nd (nd.sublist hs), List.all_map]
  simp only [Bool.and_eq_true, decide_eq_true_eq, List.all_eq_true, and_true]
  refine ⟨⟨h1, h7⟩, fun o ho => ?_⟩
  cases o with
  | none => rfl
  | some v =>
    have hv : v ∈ rs := hs.subset (List.mem_filterMap.mpr ⟨some v, ho, rfl⟩)
    have := rg v hv
    show (false || (decide (1 ≤ v) && decide (v ≤ (os.length : Int)))) = true
    simp [this]
def ranksOf (cs : List Int) : List Int := cs.map fun c => ((isort cs).idxOf c : Nat) + 1
theorem ranks_nd {cs : List Int} (h : cs.Nodup) : (ranksOf cs).Nodup := by
  refine nodup_map_on (fun a ha b hb e => ?_) h
  have ma := (isort_perm cs).mem_iff.mpr ha
  have mb := (isort_perm cs).mem_iff.mpr hb
  have e2 : (isort cs).idxOf a = (isort cs).idxOf b := by omega
  have h1 := List.getElem_idxOf (List.idxOf_lt_length_of_mem ma)
  have h2 := List.getElem_idxOf (List.idxOf_lt_length_of_mem mb)
  rw [← h1, ← h2]
  simp only [e2]
theorem ranks_rg {cs : List Int} : ∀ x ∈ ranksOf cs, 1 ≤ x ∧ x ≤ (cs.length : Int) := by
  intro x hx
  obtain ⟨c, hc, rfl⟩ := List.mem_map.mp hx
  have mc := (isort_perm cs).mem_iff.mpr hc
  have h1 := List.idxOf_lt_length_of_mem mc
  rw [(isort_perm cs).length_eq] at h1
  omega
theorem ranks_len (cs : List Int) : (ranksOf cs).length = cs.length := List.length_map ..
/-! what is odd -/
def Bad_filled : List D → Prop := fun ds => ∃ x, ds = [x] ∧ plainD x ∧ hidB x = false
def Bad_rows_of : List D → Prop := fun ds => ∃ x, ds = [x] ∧ nrefD x ∧ fromD x 0 60 = false
abbrev QN : Str := "law.<locals>.<lambda>"
def odds1 : List D := [.non, .tup [], .lst [.non], .tup [.int 1, .int 1], .tup [.int 0], .tup [.int 2], .tup [.bl true], .tup (List.replicate (8 : Int).toNat [D.non]).flatten, .tup [.str "1"]]
def odds2 : List D := [.non, .bl true, .int (-1), .int 61, .str "1"]
theorem odds1_bad : ∀ d ∈ odds1, Bad_filled [d] := by
  intro d hd
  have h : ∀ d ∈ odds1, hidB d = false := by
    unfold odds1
    simp only [List.forall_mem_cons]
    exact ⟨rfl, by decide +kernel, rfl, by decide +kernel, by decide +kernel, by decide +kernel, by decide +kernel, by decide +kernel, by decide +kernel, fun _ h => by cases h⟩
  have h2 : ∀ d ∈ odds1, plainD d := by
    have n : ∀ (ds : List D), ds.length ≤ 1000 → ds.all (fun d => match d with | .ref _ => false | _ => true) = true → plainD (.tup ds) := fun ds h1 h2 => ⟨h1, fun d hd => by
      rw [List.all_eq_true] at h2
      have := h2 d hd
      cases d <;> first | trivial | cases this⟩
    unfold odds1
    simp only [List.forall_mem_cons]
    exact ⟨trivial, n _ (by decide) rfl, trivial, n _ (by decide) rfl, n _ (by decide) rfl, n _ (by decide) rfl, n _ (by decide) rfl, n _ (by decide +kernel) (by decide +kernel), n _ (by decide) rfl, fun _ h => by cases h⟩
  exact ⟨d, rfl, h2 d hd, h d hd⟩
theorem odds2_bad : ∀ d ∈ odds2, Bad_rows_of [d] := by
  intro d hd
  have h : ∀ d ∈ odds2, nrefD d ∧ fromD d 0 60 = false := by
    unfold odds2
    simp only [List.forall_mem_cons]
    exact ⟨⟨trivial, rfl⟩, ⟨trivial, rfl⟩, ⟨trivial, by decide⟩, ⟨trivial, by decide⟩, ⟨trivial, rfl⟩, fun _ h => by cases h⟩
  exact ⟨d, rfl, h d hd⟩
theorem firstD_ok (rs : List (List Int)) (h : ∀ r ∈ rs, r.length ≤ 1000000) : okS 4 (.tup [.int rs.length, firstD rs]) = true := by
  have h1 : okS 3 (firstD rs) = true := by
    cases rs with
    | nil => rfl
    | cons r rs =>
      show (decide ((r.map D.int).length ≤ 1000000) && okSs 2 (r.map D.int)) = true
      rw [okSs_map D.int (fun _ => rfl), List.length_map]
      have := h r (List.mem_cons_self ..)
      simp [this]
  show (decide ((2 : Nat) ≤ 1000000) && (okS 3 (.int (rs.length : Nat)) && (okS 3 (firstD rs) && okSs 3 []))) = true
  rw [h1]
  rfl
end Wv

namespace PySem
namespace BarX
open PySem.W PySem.Calls PyProof.Rows PySem.HandSPX
/-! ### the text of Barred's __init__ -/
def iA (p1 p2 : Pos) : Arguments := { posonlyargs := [], args := [{ arg := "self", annotation := none, pos := p1 }, { arg := "four", annotation := none, pos := p2 }], vararg := none, kwonlyargs := [], kw_defaults := [], kwarg := none, defaults := [] }
def iB (q1 q2 q3 q4 : Pos) : List Stmt := [.Assign [.Attribute (.Name "self" q1) "four" q2] (.Name "four" q3) q4]
def iS : Scope := { kind := .function, names := [(PySem.Str.ofString "self", .local), (PySem.Str.ofString "four", .local)], isGenerator := false, isCoroutine := false, more := [] }
/-- what the written part says of Low, at C, and of its __init__, at fI -/
structure BarTxt (K : Frag) (mg : Str → Option Value) (C fI : Addr) : Prop where
  gC : mg "Barred" = some (.ref C)
  cls : ∃ nm q N bs bm sn sub ab col dd k0 k1 k2 k3 k5, K.lookup C = some (excClassObj nm q C N bs bm true sn sub ab col dd k0 k1 k2 k3 k5 "ValueError.__new__") ∧ refsVE bm = true
  sa : findIn K (.ref C) "__setattr__" = some (some (.builtin "object.__setattr__"))
  ga : findIn K (.ref C) "__getattribute__" = some (some (.builtin "BaseException.__getattribute__"))
  gg : findIn K (.ref C) "__getattr__" = some none
  noN : findIn K (.ref C) "four" = some none
  iC : findIn K (.ref C) "__init__" = some (some (.ref fI))
  tC : typeIn K (.ref fI) = some (.type "function")
  kC : keepIn K (.ref C) = true
  exC : subIn K (.ref C) (.type "BaseException") = some true
  tyC : typeIn K (.ref C) = some (.type "type")
  hdC : hasDictIn K C = true
  te : exmOne K (.ref C) (.ref C) = some true
  fn : ∃ (oc : Value) (od : Option Addr) (doc pm : Value) (an : Option Addr) (cdv ct : Value) (osl : Array (Option Value)) (p1 p2 q1 q2 q3 q4 : Pos),
    K.lookup fI = some ⟨oc, od, .func (fnOf "__init__" "Barred.__init__" (iA p1 p2) (iB q1 q2 q3 q4) iS .none .none doc pm an cdv ct), osl⟩ ∧ codeIn K cdv "Barred.__init__" = true
theorem one_size (v : Value) : [v].length ≤ sizeLine := by
  rw [sizeLine_eq]
  exact (by decide : 1 ≤ 16777216)
theorem kept_but {K : Frag} {h h' : Heap} {x : Addr} (X : K.In h) (hx : K.lookup x = none) (k : ∀ b o, b ≠ x → h.get? b = some o → h'.get? b = some o) : K.In h' := fun a o e =>
  k a o (fun z => by rw [z, hx] at e; cases e) (X a o e)
theorem ldC {M : Model} {s : Shared} {name : Str} {scope : Scope} {L a : Addr} {cd : Value} {m : Str → Option Value} {x : Str} {pos : Pos} {v : Value} {Q : Value → Shared → Prop} {A : Around} {E : Value → Shared → Prop} (hn : s.heap.Ns L m) (hv : m x = some v) (h : Q v s)
    (hk : scope.kind = .function := by rfl) (hl : (envOfC name scope L a cd).kindOf x = some .local := by rfl) (hd : (x == ("__debug__" : Str)) = false := by decide) :
    wpAny M A (eval (.Name x pos) (envOfC name scope L a cd)) Q E s := wpAny_Name (wpAny_loadName_local hk hl hn hv h) hd
/-- what __init__ leaves of a fresh exception at x -/
structure InitEnd (h h' : Heap) (x C dx t1 : Addr) (v : Value) : Prop where
  keep : ∀ b o, b ≠ x → h.get? b = some o → h'.get? b = some o
  obj : h'.get? x = some { cls := .ref C, dict := some dx, data := .fields #[.ref t1, .none, .none, .none, .bool false, .none] }
  dbig : h.objs.size ≤ dx
  dne : dx ≠ x
  ns : h'.Ns1 dx (fun y => if y = "four" then some v else none)
/-- a made Low -/
structure OwnMade (h h' : Heap) (e C d : Addr) (v : Value) : Prop where
  keep : ∀ b o, h.get? b = some o → h'.get? b = some o
  new : h.objs.size ≤ e
  obj : ∃ oe vs, h'.get? e = some oe ∧ oe.cls = .ref C ∧ oe.dict = some d ∧ oe.data = .fields vs ∧ vs[1]? = some .none ∧ vs[2]? = some .none
  dbig : h.objs.size ≤ d
  dne : d ≠ e
  ns : h'.Ns1 d (fun y => if y = "four" then some v else none)
section
variable {prog : Program} {w : World} {A : Around} {E : Value → Shared → Prop} {R : Result → Shared → Prop} {s : Shared} {K : Frag} {mg : Str → Option Value} {C fI : Addr}
theorem bar_init (T : BarTxt K mg C fI) {x t0 : Addr} {v : Value} (X : K.In s.heap) (hlim : s.heap.NoLimit) (hx : s.heap.get? x = some (excO C t0)) (hnx : K.lookup x = none) (hroom : A.depth < recursionLimit)
    (hq : ∀ h' tk dx, InitEnd s.heap h' x C dx t0 v → R (.ok (.ret .none)) { s with heap := h', toks := tk }) :
    codeAny (model prog w) A (.call (.ref fI) ⟨[.ref x, v], []⟩) R s := by
  obtain ⟨oc, od, doc, pm, an, cdv, ct, osl, p1, p2, q1, q2, q3, q4, ho, hcd⟩ := T.fn
  obtain ⟨nm, q, N, bs, bm, sn, sub, ab, col, dd, k0, k1, k2, k3, k5, hC, hbm⟩ := T.cls
  have hcl : clsIn K C = some { name := nm, bases := bs, mro := .ref C :: bm, ns := N, qualname := q, hasDict := true, slotNames := sn, subclasses := sub, abstract := ab, collection := col, hasDel := false } := by unfold clsIn; rw [hC] <;> rfl
  refine Att.call_fn (binds := [("self", .ref x), ("four", v)]) X hlim ho hcd hroom (BindsTo.of_eq (by first | rfl | with_unfolding_all rfl)) (by first | rfl | decide | with_unfolding_all rfl) (fun s₁ IC => ?_) rfl rfl rfl
  obtain ⟨h₁, tk₁, rfl⟩ := IC.toInCall.same
  have k : ∀ b o, s.heap.get? b = some o → h₁.get? b = some o := IC.toInCall.keep
  have hn := IC.toInCall.ns
  have hxL : s.heap.objs.size ≠ x := Nat.ne_of_gt (Heap.lt_size hx)
  have X₁ : K.In h₁ := X.keeps k
  have hx₁ := k _ _ hx
  -- self.by = by
  show wpAny _ _ (execs _ _) _ _ _
  refine wpAny_execs_cons (plainObj_wpAny_Assign_Attribute ?_)
  refine ldC (v := v) hn (by first | rfl | with_unfolding_all rfl | kernel_rfl) (ldC (v := .ref x) hn (by first | rfl | with_unfolding_all rfl | kernel_rfl) ?_)
  refine set_plain X₁ (ox := excO C t0) (od := none) ⟨hx₁, rfl, rfl, trivial⟩ T.sa ?_
  refine exc_osa X₁ hx₁ hcl (show refsVE (.ref C :: bm) = true from hbm) rfl T.noN (fun h₃ tk₃ dx k₃ dn dne hx₃ hn₃ => ?_)
  show wpAny _ _ (execs _ _) _ _ _
  have z : s.heap.objs.size < h₁.objs.size := hn.lt
  exact wpAny_execs_nil (hq h₃ tk₃ dx ⟨fun b o hb e => k₃ b o hb (k b o e), hx₃, Nat.le_of_lt (Nat.lt_of_lt_of_le z dn), dne, hn₃⟩)
theorem bar_made (T : BarTxt K mg C fI) {v : Value} (X : K.In s.heap) (hlim : s.heap.NoLimit) (hroom : A.depth + 1 < recursionLimit)
    (hq : ∀ h' tk e d, OwnMade s.heap h' e C d v → R (.ok (.ret (.ref e))) { s with heap := h', toks := tk }) :
    codeAny (model prog w) A (.call (.ref C) ⟨[v], []⟩) R s := by
  obtain ⟨nm, q, N, bs, bm, sn, sub, ab, col, dd, k0, k1, k2, k3, k5, hC, hbm⟩ := T.cls
  obtain ⟨hp, g, dr, tk, os⟩ := s
  have k : ∀ b o, hp.get? b = some o → ((hp.push (kdv_tup [v])).push (excO C hp.objs.size)).get? b = some o := fun b o e => Heap.get?_push_of_some _ (Heap.get?_push_of_some _ e)
  have hget : ((hp.push (kdv_tup [v])).push (excO C hp.objs.size)).get? (hp.objs.size + 1) = some (excO C hp.objs.size) := by heap_get
  have hnx : K.lookup (hp.objs.size + 1) = none := by
    cases e : K.lookup (hp.objs.size + 1) with
    | none => rfl
    | some o =>
      have z : hp.get? (hp.objs.size + 1) = some o := X _ _ e
      exact absurd (Nat.lt_of_succ_lt (Heap.lt_size z)) (Nat.lt_irrefl _)
  refine call_own F.excBase_ValueError (fun X => refsVE_contains X bm hbm) (X _ _ hC) (looks_findIn X T.iC) (fun self => bind_fn X self T.tC) (one_size v) ?_
  refine bar_init (s := ⟨(hp.push (kdv_tup [v])).push (excO C hp.objs.size), g, dr, tk, os⟩) T (X.keeps k) (hlim.keeps k) hget hnx ?_ fun h' tk' dx ⟨k', hx, dn, dne, hns⟩ => ?_
  · show A.depth + 1 < recursionLimit
    exact hroom
  · have old : ∀ b o, hp.get? b = some o → h'.get? b = some o := fun b o e => k' b o (Nat.ne_of_lt (Nat.lt_succ_of_lt (Heap.lt_size e))) (k b o e)
    have z : hp.objs.size + 1 + 1 ≤ dx := by
      first
        | (simpa only [Heap.size_push] using dn)
        | exact dn
        | (have q := dn; rw [Heap.size_push, Heap.size_push] at q; exact q)
    exact ⟨rfl, hq h' tk' (hp.objs.size + 1) dx ⟨old, Nat.le_succ _, ⟨_, _, hx, rfl, rfl, rfl, rfl, rfl⟩, Nat.le_trans (Nat.le_trans (Nat.le_succ _) (Nat.le_succ _)) z, dne, hns⟩⟩
end
end BarX
end PySem
namespace L2
open PySem PySem.Spec PyProof.Rows
theorem relO_bar {v : V} {v' : Value} (r : RelV v v') (f : Str) : RelO (List.lookup f [(("four" : Str), v)]) (if f = "four" then some v' else none) := by
  by_cases hw : f = "four"
  · subst hw
    rw [if_pos rfl]
    have q : List.lookup ("four" : Str) [(("four" : Str), v)] = some v := by simp [List.lookup]
    rw [q]
    exact r
  · rw [if_neg hw]
    have qw : (f == ("four" : Str)) = false := by simpa using hw
    have q2 : List.lookup f [(("four" : Str), v)] = none := by simp [List.lookup, qw]
    rw [q2]
    trivial
section
variable {X : Cx} {C fI : Addr}
/-- Low(e) -/
def tMkBar (C : Addr) (ta : TA) : St → Hp → XK → Prop := fun σ H Q => ta σ H fun vs H1 => ∃ v, vs = [v] ∧ ∀ d, H1 d = none → Q (.ref C) (some d) (upd H1 d (.xd [(("four" : Str), v)]))
theorem pmk_bar {a : Expr} {ta : TA} {p pos : Pos} {k : Nat} (T : PySem.BarX.BarTxt X.K X.mg C fI) (hr : Room k X.A) (ha : PA X [a] ta) (hg : Gl X "Barred" := by rfl)
    (he : starEach (a :: []) X.env = (false, eval a X.env) :: starEach [] X.env := by rfl) (hpl : (backTo pos (starEach [] X.env)).any (·.1) = false := by rfl) :
    L2N.PMk X (.Call (.Name "Barred" p) [a] [] pos) (tMkBar C ta) := by
  intro pins s σ H Q I h
  refine wpAny_Call_Name_kw (ld_glob I hg T.gC ?_)
  refine PySem.W.callWith_K (h₀ := X.base) I.ok.mod.kin T.kC (thn (ha.run pos pins s σ H _ I h) fun us s1 hh => ?_) he hpl
  obtain ⟨vs, H1, I1, r1, v, ev, q1⟩ := hh
  subst ev
  refine ⟨I1.kIn, ?_⟩
  cases r1 with
  | cons rv rn =>
    rename_i v' us'
    cases rn
    show wpAny _ _ (call (.ref C) [v']) _ _ _
    have hlim := I1.nolimit
    obtain ⟨hp, g, dr, tk, os⟩ := s1
    refine wpAny_call (PySem.BarX.bar_made T I1.kIn hlim (by have := hr.dp; omega) fun h' tk' e d M => ?_)
    show L2N.MkP X pins σ Q (.ref e) ⟨h', g, dr, tk', os⟩
    obtain ⟨oe, fv, hoe, hc, hd, hdat, h1, h2⟩ := M.obj
    have hns := M.ns
    obtain ⟨G', g1, g2⟩ := restrict h' fun b => decide (b ≠ e)
    have gk : ∀ b, b ≠ e → G'.get? b = h'.get? b := fun b hb => g1 b (decide_eq_true hb)
    have ge : G'.get? e = none := g2 e (by simp)
    have old : ∀ b o, hp.get? b = some o → G'.get? b = some o := fun b o q => (gk b (Nat.ne_of_lt (Nat.lt_of_lt_of_le (Heap.lt_size q) M.new))).trans (M.keep b o q)
    have ob : ObjOk X.prog X.w (upd H1 d (.xd [(("four" : Str), v)])) G' d (.xd [(("four" : Str), v)]) :=
      ⟨_, hns.at (fun o q => (gk d M.dne).trans q), fun f => relO_bar rv f⟩
    have J : Inv X pins σ (upd H1 d (.xd [(("four" : Str), v)])) ⟨G', g, dr, tk', os⟩ := I1.laid (t' := tk') old M.dbig ob
    refine ⟨e, oe, fv, ⟨G', g, dr, tk', os⟩, _, .ref C, some d, rfl, J, fun b o q => ?_, ge, hoe, ⟨hc, hd, fun vs e => by rw [hdat] at e; cases e; exact h2⟩, hdat, h1, ?_, rfl, I1.bare, raises_own T.exC T.tyC, q1 d (I1.hok.fresh M.dbig)⟩
    · by_cases hb : b = e
      · have q' : G'.get? b = some o := q
        rw [hb, ge] at q'; cases q'
      · exact (gk b hb).symm.trans q
    · rw [upd_ne (Ne.symm M.dne)]
      exact I1.hok.fresh M.new
/-- raise Low(e) -/
def tRaiseBar (C : Addr) (W : WX) (ta : TA) : TS := fun _ σ H => tMkBar C ta σ H fun cls d H' => W cls d σ H'
theorem ps_raiseBar {a : Expr} {ta : TA} {W : WX} {p pos pos2 : Pos} {k : Nat} (hc : X.calm = true) (T : PySem.BarX.BarTxt X.K X.mg C fI) (hr : Room k X.A) (tk : L2N.Takes X W) (ha : PA X [a] ta) (hg : Gl X "Barred" := by rfl)
    (he : starEach (a :: []) X.env = (false, eval a X.env) :: starEach [] X.env := by rfl) (hpl : (backTo pos (starEach [] X.env)).any (·.1) = false := by rfl) :
    PS X (.Raise (some (.Call (.Name "Barred" p) [a] [] pos)) none pos2) (tRaiseBar C W ta)   := L2N.ps_raise hc tk (pmk_bar T hr ha hg he hpl)
end
end L2

namespace Wv
open PySem PySem.Spec PyProof.Rows L2 HotX LamX
section
variable {X : Cx}
/-- isinstance(e, c), e an exception that is pinned and has a field -/
def rIsEd (K : PySem.W.Frag) (D a : Addr) (d : Option Addr) : List V → Hp → VK → Prop := fun xs H Q => ∃ (c : V) (cv : Value) (b : Bool), xs = [.ref a, c] ∧ (∃ (dd : Addr) (fs : List (Str × V)), d = some dd ∧ H dd = some (.xd fs)) ∧ (∀ u, RelV c u → u = cv) ∧ PySem.W.kitOne K (.ref D) cv = some b ∧ Q (.bl b) H
theorem call_isPd {a D : Addr} {oe : Obj} (C : ExcC X.K D) (hp : (a, oe) ∈ X.pn) (hc : oe.cls = .ref D) (hf : ∃ vs, oe.data = .fields vs) : CallR X (.builtin "isinstance") (rIsEd X.K D a oe.dict) := by
  intro pins s σ H xs us Q I r h
  obtain ⟨c, cv, b, rfl, ⟨dd, fs, hd, hx⟩, hcv, e, q⟩ := h
  obtain ⟨u1, u2, rfl, rx, rt⟩ := vals2 r
  cases rx
  have ec := hcv _ rt
  subst ec
  obtain ⟨hget, _⟩ := I.pin (a, oe) (List.mem_append.mpr (.inl hp))
  obtain ⟨vs, hv⟩ := hf
  have ho : ObjOk X.prog X.w H s.heap dd (.xd fs) := I.hok dd _ hx
  obtain ⟨mA, hns, hr⟩ := ho
  obtain ⟨od, ho, hl⟩ := lookIn_ns hns
  have J : PySem.W.InstAt s.heap a oe D (some od) := ⟨hget, hc, by unfold PySem.W.notCls; rw [hv] <;> rfl, by rw [hd]; exact ho⟩
  have hcl : (PySem.W.clsIn X.K D).isSome = true := by
    obtain ⟨cd, hcd, _⟩ := PySem.W.any_some C.hd
    rw [hcd]
    rfl
  exact PySem.W.kia_one (PySem.W.kitx_exc hcl C.hg C.hk C.hs C.ha C.hn C.ht C.hm) I.kIn J e (fun z => nomatch z) fun tk => ⟨.bl b, H, I.kept (t' := tk) fun _ _ z => z, rfl, q⟩
end
end Wv

namespace Wv
open PySem PySem.Spec PyProof.Rows L2 HotX LamX

/-! # objects of a class, over the ledger -/
section
variable {M : Mo} {L : Lg} {H : Hp}
theorem FReps.some_ : ∀ {fs : List (Str × D)} {vs : List (Str × V)}, FReps M L H fs vs → ∀ {f : Str} {d : D}, fs.lookup f = some d → ∃ v, vs.lookup f = some v ∧ Rep M L H d v
  | _, _, .nil, f, d, e => by cases e
  | (x, d0) :: fs, (y, v0) :: vs, .cons a b, f, d, e => by
    obtain ⟨h1, h2⟩ := a
    have h1' : x = y := h1
    subst h1'
    cases hx : (f == x) with
    | true =>
      simp only [List.lookup, hx] at e ⊢
      cases e
      exact ⟨v0, rfl, h2⟩
    | false =>
      simp only [List.lookup, hx] at e ⊢
      exact FReps.some_ b e
theorem FReps.none_ : ∀ {fs : List (Str × D)} {vs : List (Str × V)}, FReps M L H fs vs → ∀ {f : Str}, fs.lookup f = none → vs.lookup f = none
  | _, _, .nil, f, e => rfl
  | (x, d0) :: fs, (y, v0) :: vs, .cons a b, f, e => by
    obtain ⟨h1, h2⟩ := a
    have h1' : x = y := h1
    subst h1'
    cases hx : (f == x) with
    | true =>
      simp only [List.lookup, hx] at e
      cases e
    | false =>
      simp only [List.lookup, hx] at e ⊢
      exact FReps.none_ b e
def putD (f : Str) (v : D) : List (Str × D) → List (Str × D)
  | [] => [(f, v)]
  | (g, x) :: r => if g = f then (g, v) :: r else (g, x) :: putD f v r
theorem FReps.put : ∀ {fs : List (Str × D)} {vs : List (Str × V)}, FReps M L H fs vs → ∀ {f : Str} {d : D} {v : V}, Rep M L H d v → FReps M L H (putD f d fs) (putF f v vs)
  | _, _, .nil, f, d, v, r => .cons ⟨rfl, r⟩ .nil
  | (x, d0) :: fs, (y, v0) :: vs, .cons a b, f, d, v, r => by
    obtain ⟨h1, h2⟩ := a
    have h1' : x = y := h1
    subst h1'
    unfold putD putF
    split
    · exact .cons ⟨rfl, r⟩ b
    · exact .cons ⟨rfl, h2⟩ (FReps.put b r)
end
/-- o.f -/
def aFld (C : Addr) (f : Str) (t : AT) : AT := fun Δ L K => t Δ L fun d L1 => ∃ p fs v, d = .ref p ∧ L1 p = some (.ins C fs) ∧ fs.lookup f = some v ∧ K v L1
/-- o.f = e -/
def aSetF (C : Addr) (f : Str) (tv to : AT) : ATS := fun A Δ L => tv Δ L fun v L1 => to Δ L1 fun o L2 => ∃ p fs, o = .ref p ∧ L2 p = some (.ins C fs) ∧ fs.length < 1000 ∧ A.nx Δ (put L2 p (.ins C (putD f v fs)))
/-- C() -/
def aMake (C : Addr) (A : ASp) : AT := fun Δ L K => ∀ p, L p = none → A [.ref p] (put L p (.ins C [])) fun v L2 => v = .non ∧ K (.ref p) L2
/-- o.m(..) -/
def aMeth (C : Addr) (m : Str) (A : ASp) (to : AT) (tr : ATA) : AT := fun Δ L K => to Δ L fun o L1 => ∃ p fs, o = .ref p ∧ L1 p = some (.ins C fs) ∧ fs.lookup m = none ∧ tr Δ L1 fun ds L2 => A (.ref p :: ds) L2 K
section
variable {X : Cx} {e o value : Expr} {es : List Expr} {t tv to : AT} {tr : ATA} {pos pos' apos p : Pos} {C : Addr} {f m : Str}
theorem ae_fld (c : Cls X.K C) (n : NoAttr X.K C f) (he : AE X e t) (hb : attributeBase e f X.env (eval e X.env) = eval e X.env := by rfl) : AE X (.Attribute e f pos) (aFld C f t) := peW (pe_fld he hb) fun σ H Q => by
  rintro ⟨Z, Δ, L, K, w, s, t, q⟩
  refine ⟨Z, Δ, L, _, w, s, t, fun d L1 v1 H1 p1 w1 r1 t1 => ?_⟩
  obtain ⟨a, fs, v, rfl, hL, hl, k⟩ := t1
  cases r1
  obtain ⟨dx, vs, hH, ho, hfr, hf⟩ := w1.cell a _ hL
  obtain ⟨u, hu, ru⟩ := hf.some_ hl
  exact ⟨a, C, dx, vs, u, rfl, hH, c, n, hu, q _ _ _ _ p1 w1 ru k⟩
theorem as_fld (c : Cls X.K C) (n : NoAttr X.K C f) (ho : AE X o to) (hv : AE X value tv) (hs : swapsWith value (some (.Attribute o f pos')) pos.line X.env = pure false := by rfl) : AS X (.Assign [.Attribute o f pos'] value pos) (aSetF C f tv to) := psW (ps_fld ho hv hs) fun E σ H => by
  rintro ⟨Z, Δ, L, A, w, s, t, q⟩
  refine ⟨Z, Δ, L, _, w, s, t, fun v L1 v1 H1 p1 w1 r1 t1 => ?_⟩
  refine ⟨Z, Δ, L1, _, w1, s.mono p1, t1, fun d L2 v2 H2 p2 w2 r2 t2 => ?_⟩
  obtain ⟨a, fs, rfl, hL, hlen, k⟩ := t2
  cases r2
  obtain ⟨dx, vs, hH, ho2, hfr, hf⟩ := w2.cell a _ hL
  have hl2 : vs.length = fs.length := (Paired.length hf).symm
  have P : Pers L2 H2 (put L2 a (.ins C (putD f v fs))) (upd H2 a (.ins C dx (putF f v1 vs))) := Pers.mut hL
  have ne : dx ≠ a := fun z => by rw [z, hH] at ho2; cases ho2
  refine ⟨a, C, dx, vs, rfl, hH, c, n, by rw [hl2]; exact hlen, ?_⟩
  refine q.1 _ _ _ _ ((p1.trans p2).trans P) (w2.mut hL ⟨dx, putF f v1 vs, upd_same, by rw [upd_ne ne]; exact ho2, ⟨by rw [put_ne ne]; exact hfr.1, hfr.2⟩, ?_⟩) (s.mono ((p1.trans p2).trans P)) k
  exact FReps.put (hf.mono P) ((r1.mono p2).mono P)
/-- a method, known by its promise -/
structure KnM (P : Program) (w : World) (K : PySem.W.Frag) (mg : Str → Option Value) (base : Heap) (C : Addr) (k : Nat) (m : Str) (ps : List Str) (A : ASp) : Prop where
  ex : ∃ f fd, FnOk P w K mg base CX0 k f fd ps (spOf (mo P w K) A) ∧ Meth K C m f ∧ Binds K fd ps []
theorem lift_meth {A : ASp} {E : XK} {σ : L2.St} {H : Hp} {Q : VK} (h : lift X.mo (aMeth C m A to tr) σ H Q) : tMeth C m (spOf X.mo A) [] E (lift X.mo to) (liftA X.mo tr) σ H Q := by
  obtain ⟨Z, Δ, L, K, w, s, t, q⟩ := h
  refine ⟨Z, Δ, L, _, w, s, t, fun d L1 v1 H1 p1 w1 r1 t1 => ?_⟩
  obtain ⟨a, fs, rfl, hL, hl, k⟩ := t1
  cases r1
  obtain ⟨dx, vs, hH, ho2, hfr, hf⟩ := w1.cell a _ hL
  refine ⟨a, dx, vs, rfl, hH, hf.none_ hl, Z, Δ, L1, _, w1, s.mono p1, k, fun ds L2 us H2 p2 w2 r2 t2 => ?_⟩
  show spOf X.mo A (V.ref a :: (us ++ [])) H2 Q E
  rw [List.append_nil]
  exact ⟨Z, .ref a :: ds, L2, K, w2, .cons (.ref a) r2, t2, q.after (p1.trans p2)⟩
theorem ae_meth {k : Nat} {ps : List Str} {A : ASp} {pl : Sem Bool} (c : Cls X.K C) (h : KnM X.prog X.w X.K X.mg X.base C k m ps A) (hr : Room k X.A) (ho : AE X o to) (ha : AA X (e :: es) tr)
    (hst : starEach (e :: es) X.env = (false, eval e X.env) :: starEach es X.env := by rfl) (hpl : (backTo pos (starEach es X.env)).any (·.1) = false := by rfl)
    (ht : eval (.Call (.Attribute o m apos) (e :: es) [] pos) X.env = (do
      let ov ← eval o X.env
      standAt apos.atName
      let (f, first) ← holding [ov] (getMethod ov m pl)
      callWith pos f first (backTo pos (starEach (e :: es) X.env)) (backToKw pos (keywordEach [] X.env))) := by rfl) :
    AE X (.Call (.Attribute o m apos) (e :: es) [] pos) (aMeth C m A to tr) := by
  obtain ⟨f, fd, F, hm, b⟩ := h
  exact peW (pe_meth ho c hm F hr b .nil pass0 ha hst hpl ht) fun _ _ _ => lift_meth
theorem ae_meth0 {k : Nat} {ps : List Str} {A : ASp} {pl : Sem Bool} (c : Cls X.K C) (h : KnM X.prog X.w X.K X.mg X.base C k m ps A) (hr : Room k X.A) (ho : AE X o to)
    (ht : eval (.Call (.Attribute o m apos) [] [] pos) X.env = (do
      let ov ← eval o X.env
      standAt apos.atName
      let (f, first) ← holding [ov] (getMethod ov m pl)
      callWith pos f first (backTo pos (starEach [] X.env)) (backToKw pos (keywordEach [] X.env))) := by rfl) :
    AE X (.Call (.Attribute o m apos) [] [] pos) (aMeth C m A to aNil) := by
  obtain ⟨f, fd, F, hm, b⟩ := h
  exact peW (pe_meth0 ho c hm F hr b .nil pass0 ht) fun _ _ _ h => by
    obtain ⟨Z, Δ, L, K, w, s, t, q⟩ := h
    refine ⟨Z, Δ, L, _, w, s, t, fun d L1 v1 H1 p1 w1 r1 t1 => ?_⟩
    obtain ⟨a, fs, rfl, hL, hl, k⟩ := t1
    cases r1
    obtain ⟨dx, vs, hH, ho2, hfr, hf⟩ := w1.cell a _ hL
    exact ⟨a, dx, vs, rfl, hH, hf.none_ hl, Z, [.ref a], L1, K, w1, .cons (.ref a) .nil, k, q.after p1⟩
theorem ae_make0 {k : Nat} {ps : List Str} {A : ASp} {f0 : Addr} {fd : FuncData} {x : Str} (M : Mk X.K C f0) (F : FnOk X.prog X.w X.K X.mg X.base CX0 k f0 fd ps (spOf X.mo A)) (hb : Binds X.K fd ps []) (hr : Room (k + 1) X.A) (hg : Gl X x) (hm : X.mg x = some (.ref C))
    (hdb : (x == ("__debug__" : Str)) = false := by decide) : AE X (.Call (.Name x p) [] [] pos) (aMake C A) := peW (pe_make0 M F hr hg hm hb .nil pass0 hdb) fun σ H Q => by
  rintro ⟨Z, Δ, L, K, w, s, t, q⟩
  intro a dx na nd ne
  have n2 : upd H dx (.own a) a = none := by rw [upd_ne (Ne.symm ne)]; exact na
  have w1 : Wd (X.mo.z Z) L (upd H dx (.own a)) := w.new nd
  have hfa := w.fresh na
  have hfd := w.fresh nd
  have w2 : Wd (X.mo.z Z) (put L a (.ins C [])) (upd (upd H dx (.own a)) a (.ins C dx [])) := w1.newL n2 ⟨dx, [], upd_same, by rw [upd_ne ne, upd_same], ⟨by rw [put_ne ne]; exact hfd.1, hfd.2⟩, .nil⟩
  have P : Pers L H (put L a (.ins C [])) (upd (upd H dx (.own a)) a (.ins C dx [])) := (Pers.new nd).trans (Pers.newL n2)
  refine ⟨Z, [.ref a], _, _, w2, .cons (.ref a) .nil, t a hfa.1, fun d L' v H' p' w' r' k' => ?_⟩
  obtain ⟨rfl, k'⟩ := k'
  cases r'
  exact ⟨rfl, q _ _ _ _ (P.trans p') w' (.ref a) k'⟩
end
section
variable {P : Program} {w : World} {K : PySem.W.Frag} {mg : Str → Option Value} {base : Heap} {x qual : Str} {st : Stmt} {f C : Addr} {fd : FuncData} {N ps : List Str} {k : Nat} {A : ASp}
theorem fnM (F : Fun K x qual st f fd) (S : FnScope N ps (defScope st)) (len : ∀ ds L Kk, A ds L Kk → ds.length = ps.length) {t : ATS}
    (hbody : ∀ (cdv : Value) (Ar : Around) (outer : List Env) (s : Shared) (H : Hp) (E : XK), Room k (Ar.deeper (envOfC qual (defScope st) s.heap.objs.size f cdv)) →
      ASs (cxOf CX0 P w K mg base N qual (defScope st) f cdv Ar outer s H E).nox (defBody st) t)
    (rd : ∀ ds L Kk, A ds L Kk → t { nx := fun _ L' => Rt Kk .non L', rt := Rt Kk } (startD N ds) L) : FnOk P w K mg base CX0 (k + 1) f fd ps (spOf (mo P w K) A) := by
  refine F.ok S (fun vs H Q E h => ?_) (fun cdv Ar outer s H vs Q E hr h => ?_)
  · obtain ⟨Z, ds, L, Kk, _, r, a, _⟩ := h
    rw [← r.length]
    exact len _ _ _ a
  · obtain ⟨Z, ds, L, Kk, wd, r, a, q⟩ := h
    have q2 := q.rt
    refine ⟨_, hbody cdv Ar outer s H E hr, Z, startD N ds, L, _, wd, sl_start r, rd _ _ _ a, ?_, q2, ?_, ?_⟩
    · intro Δ' L' σ' H' p' w' s' h'
      exact q2 _ _ _ _ p' w' .non h'
    · intro _ _ _ _ _ _ _ h'
      exact h'.elim
    · intro _ _ _ _ _ _ _ h'
      exact h'.elim
end
end Wv

namespace Wv
open PySem PySem.Spec PyProof.Rows L2 HotX LamX

/-! # a method that raises an exception with a field -/
/-- the reading of statements that end in raising C, its field told by data -/
abbrev ATB := (D → Lg → Prop) → Sg → Lg → Prop
def liftB (M : Mo) (C : Addr) (b : ATB) (W : WX) : TS := fun _ σ H => ∃ Z Δ L R, Wd (M.z Z) L H ∧ Sl (M.z Z) L H Δ σ ∧ b R Δ L ∧
  ∀ (r : D) (L' : Lg) (σ' : L2.St) (H' : Hp) (d : Addr) (v : V), Pers L H L' H' → Wd (M.z Z) L' H' → H' d = some (.xd [(("four" : Str), v)]) → Rep (M.z Z) L' H' r v → R r L' → W (.ref C) (some d) σ' H'
section
variable {X : Cx} {C : Addr} {W : WX} {st : Stmt} {rest body : List Stmt} {e a : Expr} {pos p pos2 : Pos}
theorem ab_cons {t : ATS} {b : ATB} (h1 : AS X st t) (h2 : PSs X rest (liftB X.mo C b W)) : PSs X (st :: rest) (liftB X.mo C (fun R Δ L => t { nx := b R, rt := fun _ _ => False } Δ L) W) := pssW (pss_cons h1 h2) fun E σ H => by
  rintro ⟨Z, Δ, L, R, w, s, hb, q⟩
  refine ⟨Z, Δ, L, _, w, s, hb, fun Δ' L' σ' H' p' w' s' h' => ⟨Z, Δ', L', R, w', s', h', fun r L2 σ2 H2 d v p2 => q r L2 σ2 H2 d v (p'.trans p2)⟩, ?_, ?_, ?_⟩
  · intro _ _ _ _ _ _ _ h'
    exact h'.elim
  · intro _ _ _ _ _ _ _ h'
    exact h'.elim
  · intro _ _ _ _ _ _ _ h'
    exact h'.elim
theorem ab_if {tt : ATT} {b : ATB} (he : ATE X e tt) (hb : PSs X body (liftB X.mo C b W)) : PSs X (.If e body [] pos :: rest) (liftB X.mo C (fun R Δ L => tt Δ L fun c L1 => c = true ∧ b R Δ L1) W) :=
  pssW (pss_cons (ps_if he hb pss_nil) (⟨fun _ _ _ _ _ _ h => h.elim⟩ : PSs X rest (fun _ _ _ => False))) fun E σ H => by
  rintro ⟨Z, Δ, L, R, w, s, hb, q⟩
  refine ⟨Z, Δ, L, _, w, s, hb, fun c L1 H1 p1 w1 t1 => ?_⟩
  obtain ⟨rfl, hb1⟩ := t1
  exact ⟨Z, Δ, L1, R, w1, s.mono p1, hb1, fun r L2 σ2 H2 d v p2 => q r L2 σ2 H2 d v (p1.trans p2)⟩
theorem ab_raise {fI : Addr} {k : Nat} {ta : ATA} (hc : X.calm = true) (T : PySem.BarX.BarTxt X.K X.mg C fI) (hr : Room k X.A) (tk : L2N.Takes X W) (ha : AA X [a] ta) (hg : Gl X "Barred" := by rfl)
    (he : starEach (a :: []) X.env = (false, eval a X.env) :: starEach [] X.env := by rfl) (hpl : (backTo pos (starEach [] X.env)).any (·.1) = false := by rfl) :
    PSs X [.Raise (some (.Call (.Name "Barred" p) [a] [] pos)) none pos2] (liftB X.mo C (fun R Δ L => ta Δ L fun ds L1 => ∃ r, ds = [r] ∧ R r L1) W) := pssW (pss_one (ps_raiseBar hc T hr tk ha hg he hpl)) fun E σ H => by
  rintro ⟨Z, Δ, L, R, w, s, hb, q⟩
  refine ⟨Z, Δ, L, _, w, s, hb, fun ds L1 vs H1 p1 w1 r1 t1 => ?_⟩
  obtain ⟨r, rfl, hR⟩ := t1
  obtain ⟨v, rfl, rv⟩ := reps1 r1
  refine ⟨v, rfl, fun d hd => ?_⟩
  have P : Pers L1 H1 L1 (upd H1 d (.xd [(("four" : Str), v)])) := Pers.new hd
  exact q r L1 σ _ d v (p1.trans P) (w1.new hd) upd_same (rv.mono P) hR
end
/-- the promise of the raising method: Bad arguments, the ledger and the field -/
def spRaiseB (M : Mo) (Bad : List D → Lg → D → Prop) (C : Addr) : Sp := fun vs H _ E => ∃ Z ds L r, Wd (M.z Z) L H ∧ Reps (M.z Z) L H ds vs ∧ Bad ds L r ∧
  ∀ (H' : Hp) (d : Addr) (v : V), Pers L H L H' → Wd (M.z Z) L H' → H' d = some (.xd [(("four" : Str), v)]) → Rep (M.z Z) L H' r v → E (.ref C) (some d) H'
section
variable {P : Program} {w : World} {K : PySem.W.Frag} {mg : Str → Option Value} {base : Heap} {x qual : Str} {st : Stmt} {f C : Addr} {fd : FuncData} {N ps : List Str} {k : Nat} {Bad : List D → Lg → D → Prop}
theorem fn_badB (F : Fun K x qual st f fd) (S : FnScope N ps (defScope st)) (len : ∀ ds L r, Bad ds L r → ds.length = ps.length) {b : ATB}
    (hbody : ∀ (cdv : Value) (A : Around) (outer : List Env) (s : Shared) (H : Hp) (E : XK) (W : WX), L2N.Takes (cxOf (L2N.CX P w) P w K mg base N qual (defScope st) f cdv A outer s H E) W → Room k (A.deeper (envOfC qual (defScope st) s.heap.objs.size f cdv)) → PSs (cxOf (L2N.CX P w) P w K mg base N qual (defScope st) f cdv A outer s H E) (defBody st) (liftB (mo P w K) C b W))
    (rd : ∀ ds L r, Bad ds L r → b (fun r' L' => r' = r ∧ L' = L) (startD N ds) L) : FnOk P w K mg base (L2N.CX P w) (k + 1) f fd ps (spRaiseB (mo P w K) Bad C) := by
  obtain ⟨oc, od, kV, doc, pm, an, cdv, ct, osl, rfl, lk, hcd⟩ := F.ex
  refine fn_of lk hcd S (fun vs H Q E h => ?_) (fun Ar outer s H vs Q E hr h => ?_)
  · obtain ⟨Z, ds, L, r0, _, r, b, _⟩ := h
    rw [← r.length]
    exact len _ _ _ b
  · obtain ⟨Z, ds, L, r0, wd, r, hb, q⟩ := h
    refine ⟨_, hbody cdv Ar outer s H E (fun cls d _ H => E cls d H) (L2N.takes_of rfl rfl rfl rfl) hr, Z, startD N ds, L, _, wd, sl_start r, rd _ _ _ hb, fun r' L' σ' H' d v p' w' hd rv e => ?_⟩
    obtain ⟨rfl, rfl⟩ := e
    exact q H' d v p' w' hd rv
end
/-- o.m(e, ..) that may raise -/
def tMethR (C : Addr) (m : Str) (sp : Sp) (E : L2.St → XK) (ta : TE) (t : TA) : TE := fun σ H Q => ta σ H fun x H1 => ∃ a dx fs, x = .ref a ∧ H1 a = some (.ins C dx fs) ∧ fs.lookup m = none ∧ t σ H1 fun vs H2 => sp (x :: vs) H2 Q (E σ)
theorem pe_methR {X : Cx} {CX : CXT} {k : Nat} {f C : Addr} {fd : FuncData} {ps : List Str} {sp : Sp} {E : L2.St → XK} {m : Str} {pos apos : Pos} {e o : Expr} {es : List Expr} {ta : TE} {t : TA} {pl : Sem Bool} (he : PE X o ta) (c : Cls X.K C) (hm : Meth X.K C m f)
    (F : FnOk X.prog X.w X.K X.mg X.base CX k f fd ps sp) (hr : Room k X.A) (hb : Binds X.K fd ps []) (hx : ∀ σ, PassesAt CX X σ (E σ)) (ha : PA X (e :: es) t)
    (hst : starEach (e :: es) X.env = (false, eval e X.env) :: starEach es X.env := by rfl) (hpl : (backTo pos (starEach es X.env)).any (·.1) = false := by rfl)
    (ht : eval (.Call (.Attribute o m apos) (e :: es) [] pos) X.env = (do
      let ov ← eval o X.env
      standAt apos.atName
      let (f, first) ← holding [ov] (getMethod ov m pl)
      callWith pos f first (backTo pos (starEach (e :: es) X.env)) (backToKw pos (keywordEach [] X.env))) := by rfl) :
    PE X (.Call (.Attribute o m apos) (e :: es) [] pos) (tMethR C m sp E ta t) := by
  refine ⟨fun pins s σ H Q I h => ?_⟩
  refine PySem.W.methodCall_KW (pl := pl) (thn (he.run pins s σ H _ I h) fun u s1 ⟨x, H1, I1, rx, a, dx, fs, ex, ea, l, q⟩ => ?_) ht
  subst ex
  obtain rfl : u = Value.ref a := rx
  refine getmeth_ok I1 ea c hm l ?_
  refine PySem.W.callWith_K (first := [.ref a]) (h₀ := X.base) I.ok.mod.kin hm.kp (thn (ha.run pos pins s1 σ H1 _ I1 q) fun us s2 ⟨vs, H2, I2, r, q2⟩ => ⟨I2.kIn, ?_⟩) hst hpl
  exact run_fnS (us := .ref a :: us) (vs := .ref a :: vs) F hr hb (hx σ) I2 (.cons rfl r) q2
/-- the def that gets the lambda hands back a list: the kinds' text, the field -/
def TTb (C : Addr) (rn : Str) : (XK → Hp → VK → Prop) → Hp → VK → Prop := fun tl H Q => ∀ Q', tl (fun cls d H' => cls = .ref C ∧ ∃ dd v, d = some dd ∧ H' dd = some (.xd [(("four" : Str), v)]) ∧
  ∀ H'' p, (∀ b o, H' b = some o → H'' b = some o) → H' p = none → H'' p = some (.lst [.str rn, v]) → Q (.ref p) H'') H Q'
def aDoorB (P : Addr) (q : Str) (C : Addr) (m : Str) (to : AT) (tr : ATA) (Bad : List D → Lg → D → Prop) (rn : Str) : AT := fun Δ L K => L P = some (.tab q) ∧ to Δ L fun o L1 => ∃ p fs, o = .ref p ∧ L1 p = some (.ins C fs) ∧ fs.lookup m = none ∧
  tr Δ L1 fun ds L2 => ∃ r, Bad (.ref p :: ds) L2 r ∧ K (.lst [.str rn, r]) L2
section
variable {X : Cx} {e : Expr} {to : AT} {tr : ATA}
theorem ae_doorB {P : Addr} {q : Str} {Bad : List D → Lg → D → Prop} {C CB : Addr} {m rn : Str} (h : PE X e (tLamN P q (TTb CB rn) (fun E => tMethR C m (spRaiseB X.mo Bad CB) (fun _ => E) (lift X.mo to) (liftA X.mo tr)))) : AE X e (aDoorB P q C m to tr Bad rn) := peW h fun σ H Q => by
  rintro ⟨Z, Δ, L, K, w, s, ⟨hL, t⟩, qq⟩
  obtain ⟨ps, x, tt, rr⟩ := w.cell P _ hL
  refine ⟨⟨ps, x, tt, fun pos cv hc => let ⟨c, e1, e2, _⟩ := rr pos cv hc; ⟨c, e1, e2⟩⟩, fun H1 md Q' => ?_⟩
  obtain ⟨p1, w1⟩ := w.made hL md
  refine ⟨Z, Δ, L, _, w1, s.mono p1, t, fun d1 L1 v1 H1' p1' w1' r1' t1 => ?_⟩
  obtain ⟨a, fs, rfl, hLa, hl, k⟩ := t1
  cases r1'
  obtain ⟨dx, vs, hH, ho2, hfr, hf⟩ := w1'.cell a _ hLa
  refine ⟨a, dx, vs, rfl, hH, hf.none_ hl, Z, Δ, L1, _, w1', s.mono (p1.trans p1'), k, fun ds L2 us H2 p2 w2 r2 k2 => ?_⟩
  obtain ⟨r, hbad, kk⟩ := k2
  refine ⟨Z, .ref a :: ds, L2, r, w2, .cons (.ref a) r2, hbad, fun H3 d v p3 w3 hd rv => ⟨rfl, d, v, rfl, hd, fun H4 pn ext hn hl4 => ?_⟩⟩
  have p4 : Pers L2 H3 L2 H4 := fun a l o e => ⟨l, ext a o e⟩
  exact qq _ _ _ _ ((((p1.trans p1').trans p2).trans p3).trans p4) (w3.ext ext) (.lst (.inl ⟨w3.fresh hn, .inl hl4⟩) (.cons (.str rn) (.cons (rv.mono p4) .nil))) kk
end
end Wv

namespace Wv
open PySem PySem.Spec PyProof.Rows L2

/-! # k13: small rows by words -/
def ordR (m : Nat) : List Int := (List.range m).map fun i : Nat => (0 : Int) + (i : Nat)
def outC (k : Int) : Int := if k % 2 = 0 then 50 + k / 2 else 49 - k / 2
def outR (m : Nat) : List Int := (List.range m).map fun i : Nat => outC (0 + (i : Nat))
def laterB (k : Nat) : List Bool := (List.range k).map fun i : Nat => decide (i % 2 = 0)
theorem ord_many : ∀ n, n < 38 → (ptsR (ordR (n + 3))).length = n + 4 := by decide +kernel
theorem ord_rev : ∀ n, n < 38 → (ptsR (ordR (n + 3)).reverse).length = n + 4 := by decide +kernel
theorem ord_part : ∀ n, n < 38 → (ptsR (ordR (n + 3))).head? = some (false :: List.replicate (n + 2) true) := by decide +kernel
theorem ord_sides : ∀ n, n < 38 → sidesOf (ordR (n + 3)) = some (List.replicate (n + 3) ("either" : Str)) := by decide +kernel
theorem ord_seams : ∀ n, n < 38 → seamsOf (ordR (n + 3)) = [0, 1, ((n + 2 : Nat) : Int)] := by decide +kernel
theorem out_many : ∀ n, n < 38 → (ptsR (outR (n + 3))).length = 3 := by decide +kernel
theorem out_part : ∀ n, n < 38 → (ptsR (outR (n + 3))).head? = some (false :: false :: laterB (n + 1)) := by decide +kernel
theorem out_sides : ∀ n, n < 38 → sidesOf (outR (n + 3)) = some (("either" : Str) :: "either" :: (laterB (n + 1)).map sideS) := by decide +kernel
theorem out_row : ∀ n, n < 38 → (∀ x ∈ outR (n + 3), 0 ≤ x ∧ x ≤ 1000000000) ∧ (outR (n + 3)).Nodup := by decide +kernel
/-! lots -/
def allM : Nat → List (List Bool)
  | 0 => [[]]
  | n + 1 => (allM n).flatMap fun m => [false :: m, true :: m]
theorem mem_allM : ∀ m : List Bool, m ∈ allM m.length
  | [] => by simp [allM]
  | b :: m => by
    show b :: m ∈ (allM m.length).flatMap fun m => [false :: m, true :: m]
    rw [List.mem_flatMap]
    exact ⟨m, mem_allM m, by cases b <;> simp⟩
def lotB (r ws g : List Int) : Bool := decide (g.Pairwise (· < ·)) && (g.all (fun x => decide (0 ≤ x ∧ x < (r.length : Int))) && (wovenB (upsM r (keepM g r.length)) && (decide ((upsM ws (keepM g r.length)).sum = bst r ws) &&
  (List.range r.length).all fun j => decide ((j : Int) ∈ g) || (allM (r.length - (j + 1))).all fun m => !goodB (kC r g j ++ upsM (r.drop (j + 1)) m) (-1) 1000000001 || decide ((kC ws g j).sum + (upsM (ws.drop (j + 1)) m).sum < bst r ws))))
theorem lot_of {r ws g : List Int} (h : lotB r ws g = true) : Lot r ws g := by
  unfold lotB at h
  simp only [Bool.and_eq_true, decide_eq_true_eq, List.all_eq_true, Bool.or_eq_true, Bool.not_eq_true', List.mem_range] at h
  obtain ⟨h1, h2, h3, h4, h5⟩ := h
  refine ⟨h1, h2, h3, h4, fun j hj hn m hm hg => ?_⟩
  rcases h5 j hj with z | z
  · exact (hn z).elim
  · rcases z m (by rw [← hm]; exact mem_allM m) with y | y
    · rw [hg] at y; cases y
    · exact y
theorem lot_uniq {r g h : List Int} (hg : Lot r (ones r.length) g) (hh : Lot r (ones r.length) h) : g = h := by
  have ndg : g.Nodup := hg.ris.imp fun {a b} h => Int.ne_of_lt h
  have ndh : h.Nodup := hh.ris.imp fun {a b} h => Int.ne_of_lt h
  have hl : g.length = h.length := by
    have h1 := lot_len hg
    have h2 := lot_len hh
    omega
  have key : ∀ n : Nat, ∀ j : Nat, j < n → ((j : Int) ∈ g ↔ (j : Int) ∈ h) := by
    intro n
    induction n with
    | zero => intro j hj; omega
    | succ n ih =>
      intro j hj
      by_cases e : j < n
      · exact ih j e
      · have : j = n := by omega
        subst this
        constructor
        · intro z
          apply Classical.byContradiction
          intro y
          have := lot_first hh ndg hg.rng hl (by have := hg.rng _ z; omega) y z (fun i hi => (ih i hi).symm)
          rw [hg.good] at this
          cases this
        · intro z
          apply Classical.byContradiction
          intro y
          have := lot_first hg ndh hh.rng hl.symm (by have := hh.rng _ z; omega) y z ih
          rw [hh.good] at this
          cases this
  refine strict_ext hg.ris hh.ris fun x => ?_
  constructor
  · intro hx
    have := hg.rng x hx
    obtain ⟨j, rfl⟩ := Int.eq_ofNat_of_zero_le this.1
    exact (key (j + 1) j (by omega)).mp hx
  · intro hx
    have := hh.rng x hx
    obtain ⟨j, rfl⟩ := Int.eq_ofNat_of_zero_le this.1
    exact (key (j + 1) j (by omega)).mpr hx
theorem lot_3412 : Lot [3, 4, 1, 2] (ones 4) [0] := lot_of (by decide +kernel)
theorem lot_214365 : Lot [2, 1, 4, 3, 6, 5] (ones 6) [0, 2] := lot_of (by decide +kernel)
theorem worth_20 : best [2, 1, 4, 3, 6, 5] [1, 1, 1, 1, 9, 9] (-1) 1000000001 = 20 := by decide +kernel
theorem four_2143 : fourOf [2, 1, 4, 3] = some [0, 1, 2, 3] := by decide +kernel
theorem four_3412 : fourOf [3, 4, 1, 2] = some [0, 1, 2, 3] := by decide +kernel
theorem fills_3 : fillsOf [none, none, none] = [[1, 2, 3], [1, 3, 2], [2, 1, 3], [2, 3, 1], [3, 1, 2], [3, 2, 1]] := by decide +kernel
theorem fills_24 : fillsOf [some 2, none, some 4, none] = [[2, 3, 4, 1]] := by decide +kernel
end Wv

namespace Wv
open PySem PySem.Spec PyProof.Rows L2
/-! is_from -/
abbrev N_is_from : List Str := ["thing", "low", "high"]
def A_is_from : ASp := fun ds L K => ∃ (x : D) (lo hi : Int), ds = [x, .int lo, .int hi] ∧ nrefD x ∧ K (.bl (fromD x lo hi)) L
def t_is_from : ATS :=
  (aRet (aAndV (aIsi "int" (aVar 0)) (aAndV (aNotV (aIsi "bool" (aVar 0))) (aCh pLe pLe (aVar 1) (aVar 0) (aVar 2)))))
theorem r_is_from {ds : List D} {L : Lg} {Kk : AK} (h : A_is_from ds L Kk) : t_is_from { nx := fun _ L' => Rt Kk .non L', rt := Rt Kk } (startD N_is_from ds) L := by
  obtain ⟨x, lo, hi, rfl, hx, h⟩ := h
  show t_is_from _ [some x, some (.int lo), some (.int hi)] L
  unfold t_is_from
  have i1 : isiD "int" "NoneType" = false := by decide
  have i2 : isiD "int" "bool" = true := by decide
  have i3 : isiD "int" "str" = false := by decide
  cases x with
  | ref p => exact hx.elim
  | int v => simp only [aSeq, aAsg, Tg.A, aVar, aC, aOp, aCons, aNil, aCall, aTup, aLst, aLstM, aFrz, aRet, aIfS, aNext, aDrop, aNever, aB, aAnd, aOr, aNot, aAndV, aOrV, aNotV, aIf, aCh, aNeg, aIsN, isN, oI0, oI, oEq, oIn, oIx, oAdd, oDIn, oDGet, oSub, oMod, oFdiv, oPow, oMul, oLt, oLe, oGt, oGe, pLe, pLt, see, items, cLen, cAll, cAny, cSorted, cSortedM, cSum, cMax, cMax2, cMin2, cList, cListM, cTuple, aIsi, aTupRg, aLstRg, oNone, oSome, aSl, aRev, aRevM, aBM, mAppend, mPopAt, mInsert, aDNew, aSetI, aSetD, aPar3, aAsgU, aLenSetS, aTabS, oIsB, mIndex, cMinT, aFor, aWhile, iSeq, seqOf, iRg1, iRg2, iZip, iEnum, aYes, aLc, aLcM, aPar, wipeD, setAll, tyD, eq_self, true_implies, false_implies, implies_true, and_true, true_and, ne_eq, not_false_eq_true, reduceCtorEq, Bool.not_true, Bool.not_false, ix30, ix32, at30, at31, at32, isiD_ii, isiD_bi, isiD_tt, isiD_ll, isiD_il, isiD_bl2, isiD_it, isiD_bt, isiD_st, isiD_sl, isiD_lt, isiD_si, isiD_li, isiD_bb, eqD_int, okD_i, List.set_cons_zero, List.set_cons_succ, List.getElem?_cons_zero, List.getElem?_cons_succ, List.length_cons, List.length_nil, List.map_cons, List.map_nil, Option.bind_some, put_same, Bool.xor_false, Bool.false_xor]; exact ⟨by decide, by decide, Rt.same h⟩
  | non => simp only [aSeq, aAsg, Tg.A, aVar, aC, aOp, aCons, aNil, aCall, aTup, aLst, aLstM, aFrz, aRet, aIfS, aNext, aDrop, aNever, aB, aAnd, aOr, aNot, aAndV, aOrV, aNotV, aIf, aCh, aNeg, aIsN, isN, oI0, oI, oEq, oIn, oIx, oAdd, oDIn, oDGet, oSub, oMod, oFdiv, oPow, oMul, oLt, oLe, oGt, oGe, pLe, pLt, see, items, cLen, cAll, cAny, cSorted, cSortedM, cSum, cMax, cMax2, cMin2, cList, cListM, cTuple, aIsi, aTupRg, aLstRg, oNone, oSome, aSl, aRev, aRevM, aBM, mAppend, mPopAt, mInsert, aDNew, aSetI, aSetD, aPar3, aAsgU, aLenSetS, aTabS, oIsB, mIndex, cMinT, aFor, aWhile, iSeq, seqOf, iRg1, iRg2, iZip, iEnum, aYes, aLc, aLcM, aPar, wipeD, setAll, tyD, eq_self, true_implies, false_implies, implies_true, and_true, true_and, ne_eq, not_false_eq_true, reduceCtorEq, Bool.not_true, Bool.not_false, ix30, ix32, at30, at31, at32, isiD_ii, isiD_bi, isiD_tt, isiD_ll, isiD_il, isiD_bl2, isiD_it, isiD_bt, isiD_st, isiD_sl, isiD_lt, isiD_si, isiD_li, isiD_bb, eqD_int, okD_i, List.set_cons_zero, List.set_cons_succ, List.getElem?_cons_zero, List.getElem?_cons_succ, List.length_cons, List.length_nil, List.map_cons, List.map_nil, Option.bind_some, put_same, Bool.xor_false, Bool.false_xor, i1, Bool.false_eq_true]; exact ⟨by decide, Rt.same h⟩
  | bl b => simp only [aSeq, aAsg, Tg.A, aVar, aC, aOp, aCons, aNil, aCall, aTup, aLst, aLstM, aFrz, aRet, aIfS, aNext, aDrop, aNever, aB, aAnd, aOr, aNot, aAndV, aOrV, aNotV, aIf, aCh, aNeg, aIsN, isN, oI0, oI, oEq, oIn, oIx, oAdd, oDIn, oDGet, oSub, oMod, oFdiv, oPow, oMul, oLt, oLe, oGt, oGe, pLe, pLt, see, items, cLen, cAll, cAny, cSorted, cSortedM, cSum, cMax, cMax2, cMin2, cList, cListM, cTuple, aIsi, aTupRg, aLstRg, oNone, oSome, aSl, aRev, aRevM, aBM, mAppend, mPopAt, mInsert, aDNew, aSetI, aSetD, aPar3, aAsgU, aLenSetS, aTabS, oIsB, mIndex, cMinT, aFor, aWhile, iSeq, seqOf, iRg1, iRg2, iZip, iEnum, aYes, aLc, aLcM, aPar, wipeD, setAll, tyD, eq_self, true_implies, false_implies, implies_true, and_true, true_and, ne_eq, not_false_eq_true, reduceCtorEq, Bool.not_true, Bool.not_false, ix30, ix32, at30, at31, at32, isiD_ii, isiD_bi, isiD_tt, isiD_ll, isiD_il, isiD_bl2, isiD_it, isiD_bt, isiD_st, isiD_sl, isiD_lt, isiD_si, isiD_li, isiD_bb, eqD_int, okD_i, List.set_cons_zero, List.set_cons_succ, List.getElem?_cons_zero, List.getElem?_cons_succ, List.length_cons, List.length_nil, List.map_cons, List.map_nil, Option.bind_some, put_same, Bool.xor_false, Bool.false_xor, i2, Bool.false_eq_true]; exact ⟨by decide, by decide, Rt.same h⟩
  | str b => simp only [aSeq, aAsg, Tg.A, aVar, aC, aOp, aCons, aNil, aCall, aTup, aLst, aLstM, aFrz, aRet, aIfS, aNext, aDrop, aNever, aB, aAnd, aOr, aNot, aAndV, aOrV, aNotV, aIf, aCh, aNeg, aIsN, isN, oI0, oI, oEq, oIn, oIx, oAdd, oDIn, oDGet, oSub, oMod, oFdiv, oPow, oMul, oLt, oLe, oGt, oGe, pLe, pLt, see, items, cLen, cAll, cAny, cSorted, cSortedM, cSum, cMax, cMax2, cMin2, cList, cListM, cTuple, aIsi, aTupRg, aLstRg, oNone, oSome, aSl, aRev, aRevM, aBM, mAppend, mPopAt, mInsert, aDNew, aSetI, aSetD, aPar3, aAsgU, aLenSetS, aTabS, oIsB, mIndex, cMinT, aFor, aWhile, iSeq, seqOf, iRg1, iRg2, iZip, iEnum, aYes, aLc, aLcM, aPar, wipeD, setAll, tyD, eq_self, true_implies, false_implies, implies_true, and_true, true_and, ne_eq, not_false_eq_true, reduceCtorEq, Bool.not_true, Bool.not_false, ix30, ix32, at30, at31, at32, isiD_ii, isiD_bi, isiD_tt, isiD_ll, isiD_il, isiD_bl2, isiD_it, isiD_bt, isiD_st, isiD_sl, isiD_lt, isiD_si, isiD_li, isiD_bb, eqD_int, okD_i, List.set_cons_zero, List.set_cons_succ, List.getElem?_cons_zero, List.getElem?_cons_succ, List.length_cons, List.length_nil, List.map_cons, List.map_nil, Option.bind_some, put_same, Bool.xor_false, Bool.false_xor, i3, Bool.false_eq_true]; exact ⟨by decide, Rt.same h⟩
  | tup b => simp only [aSeq, aAsg, Tg.A, aVar, aC, aOp, aCons, aNil, aCall, aTup, aLst, aLstM, aFrz, aRet, aIfS, aNext, aDrop, aNever, aB, aAnd, aOr, aNot, aAndV, aOrV, aNotV, aIf, aCh, aNeg, aIsN, isN, oI0, oI, oEq, oIn, oIx, oAdd, oDIn, oDGet, oSub, oMod, oFdiv, oPow, oMul, oLt, oLe, oGt, oGe, pLe, pLt, see, items, cLen, cAll, cAny, cSorted, cSortedM, cSum, cMax, cMax2, cMin2, cList, cListM, cTuple, aIsi, aTupRg, aLstRg, oNone, oSome, aSl, aRev, aRevM, aBM, mAppend, mPopAt, mInsert, aDNew, aSetI, aSetD, aPar3, aAsgU, aLenSetS, aTabS, oIsB, mIndex, cMinT, aFor, aWhile, iSeq, seqOf, iRg1, iRg2, iZip, iEnum, aYes, aLc, aLcM, aPar, wipeD, setAll, tyD, eq_self, true_implies, false_implies, implies_true, and_true, true_and, ne_eq, not_false_eq_true, reduceCtorEq, Bool.not_true, Bool.not_false, ix30, ix32, at30, at31, at32, isiD_ii, isiD_bi, isiD_tt, isiD_ll, isiD_il, isiD_bl2, isiD_it, isiD_bt, isiD_st, isiD_sl, isiD_lt, isiD_si, isiD_li, isiD_bb, eqD_int, okD_i, List.set_cons_zero, List.set_cons_succ, List.getElem?_cons_zero, List.getElem?_cons_succ, List.length_cons, List.length_nil, List.map_cons, List.map_nil, Option.bind_some, put_same, Bool.xor_false, Bool.false_xor, Bool.false_eq_true]; exact ⟨by decide, Rt.same h⟩
  | lst b => simp only [aSeq, aAsg, Tg.A, aVar, aC, aOp, aCons, aNil, aCall, aTup, aLst, aLstM, aFrz, aRet, aIfS, aNext, aDrop, aNever, aB, aAnd, aOr, aNot, aAndV, aOrV, aNotV, aIf, aCh, aNeg, aIsN, isN, oI0, oI, oEq, oIn, oIx, oAdd, oDIn, oDGet, oSub, oMod, oFdiv, oPow, oMul, oLt, oLe, oGt, oGe, pLe, pLt, see, items, cLen, cAll, cAny, cSorted, cSortedM, cSum, cMax, cMax2, cMin2, cList, cListM, cTuple, aIsi, aTupRg, aLstRg, oNone, oSome, aSl, aRev, aRevM, aBM, mAppend, mPopAt, mInsert, aDNew, aSetI, aSetD, aPar3, aAsgU, aLenSetS, aTabS, oIsB, mIndex, cMinT, aFor, aWhile, iSeq, seqOf, iRg1, iRg2, iZip, iEnum, aYes, aLc, aLcM, aPar, wipeD, setAll, tyD, eq_self, true_implies, false_implies, implies_true, and_true, true_and, ne_eq, not_false_eq_true, reduceCtorEq, Bool.not_true, Bool.not_false, ix30, ix32, at30, at31, at32, isiD_ii, isiD_bi, isiD_tt, isiD_ll, isiD_il, isiD_bl2, isiD_it, isiD_bt, isiD_st, isiD_sl, isiD_lt, isiD_si, isiD_li, isiD_bb, eqD_int, okD_i, List.set_cons_zero, List.set_cons_succ, List.getElem?_cons_zero, List.getElem?_cons_succ, List.length_cons, List.length_nil, List.map_cons, List.map_nil, Option.bind_some, put_same, Bool.xor_false, Bool.false_xor, Bool.false_eq_true]; exact ⟨by decide, Rt.same h⟩
/-! is_rising -/
abbrev N_is_rising : List Str := ["things", "one", "other"]
def A_is_rising : ASp := fun ds L K => ∃ (d : D) (ns : List Int), ds = [d] ∧ (d = .lst (ns.map .int) ∨ d = .tup (ns.map .int)) ∧ ns.Pairwise (· < ·) ∧ ns.length ≤ 1000000 ∧ K (.bl true) L
def t_is_rising : ATS :=
  (aRet (aCall cAll (aCons (aLc (iZip (aVar 0) (aSl (aVar 0) (oSome (aC (.int 1))) oNone)) (.many [1, 2]) aYes (aOp oLt (aVar 1) (aVar 2)) [1, 2]) aNil)))
theorem r_is_rising {ds : List D} {L : Lg} {Kk : AK} (h : A_is_rising ds L Kk) : t_is_rising { nx := fun _ L' => Rt Kk .non L', rt := Rt Kk } (startD N_is_rising ds) L := by
  obtain ⟨d, ns, rfl, hd, hs, hl, h⟩ := h
  show t_is_rising _ [some d, none, none] L
  unfold t_is_rising
  rcases hd with rfl | rfl
  all_goals
    simp only [aSeq, aAsg, Tg.A, aVar, aC, aOp, aCons, aNil, aCall, aTup, aLst, aLstM, aFrz, aRet, aIfS, aNext, aDrop, aNever, aB, aAnd, aOr, aNot, aAndV, aOrV, aNotV, aIf, aCh, aNeg, aIsN, isN, oI0, oI, oEq, oIn, oIx, oAdd, oDIn, oDGet, oSub, oMod, oFdiv, oPow, oMul, oLt, oLe, oGt, oGe, pLe, pLt, see, items, cLen, cAll, cAny, cSorted, cSortedM, cSum, cMax, cMax2, cMin2, cList, cListM, cTuple, aIsi, aTupRg, aLstRg, oNone, oSome, aSl, aRev, aRevM, aBM, mAppend, mPopAt, mInsert, aDNew, aSetI, aSetD, aPar3, aAsgU, aLenSetS, aTabS, oIsB, mIndex, cMinT, aFor, aWhile, iSeq, seqOf, iRg1, iRg2, iZip, iEnum, aYes, aLc, aLcM, aPar, wipeD, setAll, tyD, eq_self, true_implies, false_implies, implies_true, and_true, true_and, ne_eq, not_false_eq_true, reduceCtorEq, Bool.not_true, Bool.not_false, ix30, ix32, at30, at31, at32, isiD_ii, isiD_bi, isiD_tt, isiD_ll, isiD_il, isiD_bl2, isiD_it, isiD_bt, isiD_st, isiD_sl, isiD_lt, isiD_si, isiD_li, isiD_bb, eqD_int, okD_i, List.set_cons_zero, List.set_cons_succ, List.getElem?_cons_zero, List.getElem?_cons_succ, List.length_cons, List.length_nil, List.map_cons, List.map_nil, Option.bind_some, put_same, Bool.xor_false, Bool.false_xor]
    rw [cut_one, ← List.map_drop, zipD_maps]
    refine ⟨by rw [List.length_map, List.length_zip]; omega, ?_⟩
    refine lcA_map _ _ (fun p => [.bl (decide (p.1 < p.2))]) (by simp) (fun p hp R hR => ?_) ?_
    · simp only [aSeq, aAsg, Tg.A, aVar, aC, aOp, aCons, aNil, aCall, aTup, aLst, aLstM, aFrz, aRet, aIfS, aNext, aDrop, aNever, aB, aAnd, aOr, aNot, aAndV, aOrV, aNotV, aIf, aCh, aNeg, aIsN, isN, oI0, oI, oEq, oIn, oIx, oAdd, oDIn, oDGet, oSub, oMod, oFdiv, oPow, oMul, oLt, oLe, oGt, oGe, pLe, pLt, see, items, cLen, cAll, cAny, cSorted, cSortedM, cSum, cMax, cMax2, cMin2, cList, cListM, cTuple, aIsi, aTupRg, aLstRg, oNone, oSome, aSl, aRev, aRevM, aBM, mAppend, mPopAt, mInsert, aDNew, aSetI, aSetD, aPar3, aAsgU, aLenSetS, aTabS, oIsB, mIndex, cMinT, aFor, aWhile, iSeq, seqOf, iRg1, iRg2, iZip, iEnum, aYes, aLc, aLcM, aPar, wipeD, setAll, tyD, eq_self, true_implies, false_implies, implies_true, and_true, true_and, ne_eq, not_false_eq_true, reduceCtorEq, Bool.not_true, Bool.not_false, ix30, ix32, at30, at31, at32, isiD_ii, isiD_bi, isiD_tt, isiD_ll, isiD_il, isiD_bl2, isiD_it, isiD_bt, isiD_st, isiD_sl, isiD_lt, isiD_si, isiD_li, isiD_bb, eqD_int, okD_i, List.set_cons_zero, List.set_cons_succ, List.getElem?_cons_zero, List.getElem?_cons_succ, List.length_cons, List.length_nil, List.map_cons, List.map_nil, Option.bind_some, put_same, Bool.xor_false, Bool.false_xor]
      exact hR
    · rw [flatMap_one, asBls_map]
      simp only [aSeq, aAsg, Tg.A, aVar, aC, aOp, aCons, aNil, aCall, aTup, aLst, aLstM, aFrz, aRet, aIfS, aNext, aDrop, aNever, aB, aAnd, aOr, aNot, aAndV, aOrV, aNotV, aIf, aCh, aNeg, aIsN, isN, oI0, oI, oEq, oIn, oIx, oAdd, oDIn, oDGet, oSub, oMod, oFdiv, oPow, oMul, oLt, oLe, oGt, oGe, pLe, pLt, see, items, cLen, cAll, cAny, cSorted, cSortedM, cSum, cMax, cMax2, cMin2, cList, cListM, cTuple, aIsi, aTupRg, aLstRg, oNone, oSome, aSl, aRev, aRevM, aBM, mAppend, mPopAt, mInsert, aDNew, aSetI, aSetD, aPar3, aAsgU, aLenSetS, aTabS, oIsB, mIndex, cMinT, aFor, aWhile, iSeq, seqOf, iRg1, iRg2, iZip, iEnum, aYes, aLc, aLcM, aPar, wipeD, setAll, tyD, eq_self, true_implies, false_implies, implies_true, and_true, true_and, ne_eq, not_false_eq_true, reduceCtorEq, Bool.not_true, Bool.not_false, ix30, ix32, at30, at31, at32, isiD_ii, isiD_bi, isiD_tt, isiD_ll, isiD_il, isiD_bl2, isiD_it, isiD_bt, isiD_st, isiD_sl, isiD_lt, isiD_si, isiD_li, isiD_bb, eqD_int, okD_i, List.set_cons_zero, List.set_cons_succ, List.getElem?_cons_zero, List.getElem?_cons_succ, List.length_cons, List.length_nil, List.map_cons, List.map_nil, Option.bind_some, put_same, Bool.xor_false, Bool.false_xor]
      rw [all_zip hs]
      exact Rt.same h
/-! is_row -/
abbrev N_is_row : List Str := ["thing", "card"]
def A_is_row : ASp := fun ds L K => ∃ r : List Int, ds = [.tup (r.map .int)] ∧ Row r ∧ K (.bl true) L
def t_is_row : ATS :=
  (aSeq (aIfS (aOr (aNot (aB (aIsi "tuple" (aVar 0)))) (aNot (aB (aCh pLe pLe (aC (.int 1)) (aCall cLen (aCons (aVar 0) aNil)) (aC (.int 40)))))) (aRet (aC (.bl false))) aNext)
  (aRet (aAndV (aCall cAll (aCons (aLc (iSeq (aVar 0)) (.one 1) aYes (aCall A_is_from (aCons (aVar 1) (aCons (aC (.int 0)) (aCons (aC (.int 1000000000)) aNil)))) [1]) aNil)) (aCall A_is_rising (aCons (aCall cSorted (aCons (aVar 0) aNil)) aNil)))))
theorem r_is_row {ds : List D} {L : Lg} {Kk : AK} (h : A_is_row ds L Kk) : t_is_row { nx := fun _ L' => Rt Kk .non L', rt := Rt Kk } (startD N_is_row ds) L := by
  obtain ⟨r, rfl, w, h⟩ := h
  show t_is_row _ [some (.tup (r.map .int)), none] L
  unfold t_is_row
  have h1 : (decide ((1 : Int) ≤ (r.length : Int)) && decide ((r.length : Int) ≤ 40)) = true := by have := w.pos; have := w.few; simp; omega
  simp only [aSeq, aAsg, Tg.A, aVar, aC, aOp, aCons, aNil, aCall, aTup, aLst, aLstM, aFrz, aRet, aIfS, aNext, aDrop, aNever, aB, aAnd, aOr, aNot, aAndV, aOrV, aNotV, aIf, aCh, aNeg, aIsN, isN, oI0, oI, oEq, oIn, oIx, oAdd, oDIn, oDGet, oSub, oMod, oFdiv, oPow, oMul, oLt, oLe, oGt, oGe, pLe, pLt, see, items, cLen, cAll, cAny, cSorted, cSortedM, cSum, cMax, cMax2, cMin2, cList, cListM, cTuple, aIsi, aTupRg, aLstRg, oNone, oSome, aSl, aRev, aRevM, aBM, mAppend, mPopAt, mInsert, aDNew, aSetI, aSetD, aPar3, aAsgU, aLenSetS, aTabS, oIsB, mIndex, cMinT, aFor, aWhile, iSeq, seqOf, iRg1, iRg2, iZip, iEnum, aYes, aLc, aLcM, aPar, wipeD, setAll, tyD, eq_self, true_implies, false_implies, implies_true, and_true, true_and, ne_eq, not_false_eq_true, reduceCtorEq, Bool.not_true, Bool.not_false, ix30, ix32, at30, at31, at32, isiD_ii, isiD_bi, isiD_tt, isiD_ll, isiD_il, isiD_bl2, isiD_it, isiD_bt, isiD_st, isiD_sl, isiD_lt, isiD_si, isiD_li, isiD_bb, eqD_int, okD_i, List.set_cons_zero, List.set_cons_succ, List.getElem?_cons_zero, List.getElem?_cons_succ, List.length_cons, List.length_nil, List.map_cons, List.map_nil, Option.bind_some, put_same, Bool.xor_false, Bool.false_xor, List.length_map, h1]
  refine ⟨by decide, by have := w.few; omega, ?_⟩
  refine lcA_map _ _ (fun x => [.bl (decide (0 ≤ x) && decide (x ≤ 1000000000))]) (by simp) (fun x hx R hR => ?_) ?_
  · simp only [aSeq, aAsg, Tg.A, aVar, aC, aOp, aCons, aNil, aCall, aTup, aLst, aLstM, aFrz, aRet, aIfS, aNext, aDrop, aNever, aB, aAnd, aOr, aNot, aAndV, aOrV, aNotV, aIf, aCh, aNeg, aIsN, isN, oI0, oI, oEq, oIn, oIx, oAdd, oDIn, oDGet, oSub, oMod, oFdiv, oPow, oMul, oLt, oLe, oGt, oGe, pLe, pLt, see, items, cLen, cAll, cAny, cSorted, cSortedM, cSum, cMax, cMax2, cMin2, cList, cListM, cTuple, aIsi, aTupRg, aLstRg, oNone, oSome, aSl, aRev, aRevM, aBM, mAppend, mPopAt, mInsert, aDNew, aSetI, aSetD, aPar3, aAsgU, aLenSetS, aTabS, oIsB, mIndex, cMinT, aFor, aWhile, iSeq, seqOf, iRg1, iRg2, iZip, iEnum, aYes, aLc, aLcM, aPar, wipeD, setAll, tyD, eq_self, true_implies, false_implies, implies_true, and_true, true_and, ne_eq, not_false_eq_true, reduceCtorEq, Bool.not_true, Bool.not_false, ix30, ix32, at30, at31, at32, isiD_ii, isiD_bi, isiD_tt, isiD_ll, isiD_il, isiD_bl2, isiD_it, isiD_bt, isiD_st, isiD_sl, isiD_lt, isiD_si, isiD_li, isiD_bb, eqD_int, okD_i, List.set_cons_zero, List.set_cons_succ, List.getElem?_cons_zero, List.getElem?_cons_succ, List.length_cons, List.length_nil, List.map_cons, List.map_nil, Option.bind_some, put_same, Bool.xor_false, Bool.false_xor, A_is_from]
    exact ⟨_, _, _, rfl, trivial, hR⟩
  · rw [flatMap_one, asBls_map]
    simp only [aSeq, aAsg, Tg.A, aVar, aC, aOp, aCons, aNil, aCall, aTup, aLst, aLstM, aFrz, aRet, aIfS, aNext, aDrop, aNever, aB, aAnd, aOr, aNot, aAndV, aOrV, aNotV, aIf, aCh, aNeg, aIsN, isN, oI0, oI, oEq, oIn, oIx, oAdd, oDIn, oDGet, oSub, oMod, oFdiv, oPow, oMul, oLt, oLe, oGt, oGe, pLe, pLt, see, items, cLen, cAll, cAny, cSorted, cSortedM, cSum, cMax, cMax2, cMin2, cList, cListM, cTuple, aIsi, aTupRg, aLstRg, oNone, oSome, aSl, aRev, aRevM, aBM, mAppend, mPopAt, mInsert, aDNew, aSetI, aSetD, aPar3, aAsgU, aLenSetS, aTabS, oIsB, mIndex, cMinT, aFor, aWhile, iSeq, seqOf, iRg1, iRg2, iZip, iEnum, aYes, aLc, aLcM, aPar, wipeD, setAll, tyD, eq_self, true_implies, false_implies, implies_true, and_true, true_and, ne_eq, not_false_eq_true, reduceCtorEq, Bool.not_true, Bool.not_false, ix30, ix32, at30, at31, at32, isiD_ii, isiD_bi, isiD_tt, isiD_ll, isiD_il, isiD_bl2, isiD_it, isiD_bt, isiD_st, isiD_sl, isiD_lt, isiD_si, isiD_li, isiD_bb, eqD_int, okD_i, List.set_cons_zero, List.set_cons_succ, List.getElem?_cons_zero, List.getElem?_cons_succ, List.length_cons, List.length_nil, List.map_cons, List.map_nil, Option.bind_some, put_same, Bool.xor_false, Bool.false_xor]
    have h2 : (r.map fun x => decide (0 ≤ x) && decide (x ≤ 1000000000)).all id = true := by
      rw [List.all_map, List.all_eq_true]
      intro x hx
      have := w.rng x hx
      simp; omega
    rw [h2]
    simp only [aSeq, aAsg, Tg.A, aVar, aC, aOp, aCons, aNil, aCall, aTup, aLst, aLstM, aFrz, aRet, aIfS, aNext, aDrop, aNever, aB, aAnd, aOr, aNot, aAndV, aOrV, aNotV, aIf, aCh, aNeg, aIsN, isN, oI0, oI, oEq, oIn, oIx, oAdd, oDIn, oDGet, oSub, oMod, oFdiv, oPow, oMul, oLt, oLe, oGt, oGe, pLe, pLt, see, items, cLen, cAll, cAny, cSorted, cSortedM, cSum, cMax, cMax2, cMin2, cList, cListM, cTuple, aIsi, aTupRg, aLstRg, oNone, oSome, aSl, aRev, aRevM, aBM, mAppend, mPopAt, mInsert, aDNew, aSetI, aSetD, aPar3, aAsgU, aLenSetS, aTabS, oIsB, mIndex, cMinT, aFor, aWhile, iSeq, seqOf, iRg1, iRg2, iZip, iEnum, aYes, aLc, aLcM, aPar, wipeD, setAll, tyD, eq_self, true_implies, false_implies, implies_true, and_true, true_and, ne_eq, not_false_eq_true, reduceCtorEq, Bool.not_true, Bool.not_false, ix30, ix32, at30, at31, at32, isiD_ii, isiD_bi, isiD_tt, isiD_ll, isiD_il, isiD_bl2, isiD_it, isiD_bt, isiD_st, isiD_sl, isiD_lt, isiD_si, isiD_li, isiD_bb, eqD_int, okD_i, List.set_cons_zero, List.set_cons_succ, List.getElem?_cons_zero, List.getElem?_cons_succ, List.length_cons, List.length_nil, List.map_cons, List.map_nil, Option.bind_some, put_same, Bool.xor_false, Bool.false_xor, asInts_ints]
    exact ⟨by have := w.few; omega, _, isort r, rfl, .inl rfl, isort_strict w.nd, by rw [(isort_perm r).length_eq]; have := w.few; omega, Rt.same h⟩
/-! need_row -/
abbrev N_need_row : List Str := ["row"]
def A_need_row : ASp := fun ds L K => ∃ r : List Int, ds = [.tup (r.map .int)] ∧ Row r ∧ K .non L
def t_need_row : ATS :=
  (aIfS (aNot (aB (aCall A_is_row (aCons (aVar 0) aNil)))) aNever aNext)
theorem r_need_row {ds : List D} {L : Lg} {Kk : AK} (h : A_need_row ds L Kk) : t_need_row { nx := fun _ L' => Rt Kk .non L', rt := Rt Kk } (startD N_need_row ds) L := by
  obtain ⟨r, rfl, w, h⟩ := h
  show t_need_row _ [some (.tup (r.map .int))] L
  unfold t_need_row
  simp only [aSeq, aAsg, Tg.A, aVar, aC, aOp, aCons, aNil, aCall, aTup, aLst, aLstM, aFrz, aRet, aIfS, aNext, aDrop, aNever, aB, aAnd, aOr, aNot, aAndV, aOrV, aNotV, aIf, aCh, aNeg, aIsN, isN, oI0, oI, oEq, oIn, oIx, oAdd, oDIn, oDGet, oSub, oMod, oFdiv, oPow, oMul, oLt, oLe, oGt, oGe, pLe, pLt, see, items, cLen, cAll, cAny, cSorted, cSortedM, cSum, cMax, cMax2, cMin2, cList, cListM, cTuple, aIsi, aTupRg, aLstRg, oNone, oSome, aSl, aRev, aRevM, aBM, mAppend, mPopAt, mInsert, aDNew, aSetI, aSetD, aPar3, aAsgU, aLenSetS, aTabS, oIsB, mIndex, cMinT, aFor, aWhile, iSeq, seqOf, iRg1, iRg2, iZip, iEnum, aYes, aLc, aLcM, aPar, wipeD, setAll, tyD, eq_self, true_implies, false_implies, implies_true, and_true, true_and, ne_eq, not_false_eq_true, reduceCtorEq, Bool.not_true, Bool.not_false, ix30, ix32, at30, at31, at32, isiD_ii, isiD_bi, isiD_tt, isiD_ll, isiD_il, isiD_bl2, isiD_it, isiD_bt, isiD_st, isiD_sl, isiD_lt, isiD_si, isiD_li, isiD_bb, eqD_int, okD_i, List.set_cons_zero, List.set_cons_succ, List.getElem?_cons_zero, List.getElem?_cons_succ, List.length_cons, List.length_nil, List.map_cons, List.map_nil, Option.bind_some, put_same, Bool.xor_false, Bool.false_xor, A_is_row]
  exact ⟨r, rfl, w, Rt.same h⟩
/-! next_last -/
abbrev N_next_last : List Str := ["last", "card", "side", "up", "down"]
def nextD (u v c : Int) (up : Bool) : D := if up then (if u < c then .tup [.int c, .int v] else .non) else if c < v then .tup [.int u, .int c] else .non
def A_next_last : ASp := fun ds L K => ∃ (u v c : Int) (up : Bool), ds = [.tup [.int u, .int v], .int c, .str (if up then "up" else "down")] ∧ K (nextD u v c up) L
def t_next_last : ATS :=
  (aSeq (aAsg (aVar 0) (.many [3, 4]))
  (aSeq (aIfS (aB (aOp (oEq false) (aVar 2) (aC (.str "up")))) (aRet (aIf (aB (aOp oGt (aVar 1) (aVar 3))) (aTup (aCons (aVar 1) (aCons (aVar 4) aNil))) (aC .non))) aNext)
  (aRet (aIf (aB (aOp oLt (aVar 1) (aVar 4))) (aTup (aCons (aVar 3) (aCons (aVar 1) aNil))) (aC .non)))))
theorem r_next_last {ds : List D} {L : Lg} {Kk : AK} (h : A_next_last ds L Kk) : t_next_last { nx := fun _ L' => Rt Kk .non L', rt := Rt Kk } (startD N_next_last ds) L := by
  obtain ⟨u, v, c, up, rfl, h⟩ := h
  show t_next_last _ [some (.tup [.int u, .int v]), some (.int c), some (.str (if up then "up" else "down")), none, none] L
  unfold t_next_last
  cases up
  · have e : eqD (.str "down") (.str "up") = false := by decide +kernel
    have e1 : okD 64 (.str "down") = true := by decide +kernel
    have e2 : okD 64 (.str "up") = true := by decide +kernel
    simp only [Bool.false_eq_true, if_false]
    simp only [aSeq, aAsg, Tg.A, aVar, aC, aOp, aCons, aNil, aCall, aTup, aLst, aLstM, aFrz, aRet, aIfS, aNext, aDrop, aNever, aB, aAnd, aOr, aNot, aAndV, aOrV, aNotV, aIf, aCh, aNeg, aIsN, isN, oI0, oI, oEq, oIn, oIx, oAdd, oDIn, oDGet, oSub, oMod, oFdiv, oPow, oMul, oLt, oLe, oGt, oGe, pLe, pLt, see, items, cLen, cAll, cAny, cSorted, cSortedM, cSum, cMax, cMax2, cMin2, cList, cListM, cTuple, aIsi, aTupRg, aLstRg, oNone, oSome, aSl, aRev, aRevM, aBM, mAppend, mPopAt, mInsert, aDNew, aSetI, aSetD, aPar3, aAsgU, aLenSetS, aTabS, oIsB, mIndex, cMinT, aFor, aWhile, iSeq, seqOf, iRg1, iRg2, iZip, iEnum, aYes, aLc, aLcM, aPar, wipeD, setAll, tyD, eq_self, true_implies, false_implies, implies_true, and_true, true_and, ne_eq, not_false_eq_true, reduceCtorEq, Bool.not_true, Bool.not_false, ix30, ix32, at30, at31, at32, isiD_ii, isiD_bi, isiD_tt, isiD_ll, isiD_il, isiD_bl2, isiD_it, isiD_bt, isiD_st, isiD_sl, isiD_lt, isiD_si, isiD_li, isiD_bb, eqD_int, okD_i, List.set_cons_zero, List.set_cons_succ, List.getElem?_cons_zero, List.getElem?_cons_succ, List.length_cons, List.length_nil, List.map_cons, List.map_nil, Option.bind_some, put_same, Bool.xor_false, Bool.false_xor, e, e1, e2]
    simp only [nextD, Bool.false_eq_true, if_false] at h
    refine ⟨fun k => ?_, fun k => ?_⟩
    · rw [if_pos (of_decide_eq_true k)] at h
      exact ⟨by decide, Rt.same h⟩
    · rw [if_neg (of_decide_eq_false k)] at h
      exact Rt.same h
  · have e : eqD (.str "up") (.str "up") = true := by decide +kernel
    have e2 : okD 64 (.str "up") = true := by decide +kernel
    simp only [if_true]
    simp only [aSeq, aAsg, Tg.A, aVar, aC, aOp, aCons, aNil, aCall, aTup, aLst, aLstM, aFrz, aRet, aIfS, aNext, aDrop, aNever, aB, aAnd, aOr, aNot, aAndV, aOrV, aNotV, aIf, aCh, aNeg, aIsN, isN, oI0, oI, oEq, oIn, oIx, oAdd, oDIn, oDGet, oSub, oMod, oFdiv, oPow, oMul, oLt, oLe, oGt, oGe, pLe, pLt, see, items, cLen, cAll, cAny, cSorted, cSortedM, cSum, cMax, cMax2, cMin2, cList, cListM, cTuple, aIsi, aTupRg, aLstRg, oNone, oSome, aSl, aRev, aRevM, aBM, mAppend, mPopAt, mInsert, aDNew, aSetI, aSetD, aPar3, aAsgU, aLenSetS, aTabS, oIsB, mIndex, cMinT, aFor, aWhile, iSeq, seqOf, iRg1, iRg2, iZip, iEnum, aYes, aLc, aLcM, aPar, wipeD, setAll, tyD, eq_self, true_implies, false_implies, implies_true, and_true, true_and, ne_eq, not_false_eq_true, reduceCtorEq, Bool.not_true, Bool.not_false, ix30, ix32, at30, at31, at32, isiD_ii, isiD_bi, isiD_tt, isiD_ll, isiD_il, isiD_bl2, isiD_it, isiD_bt, isiD_st, isiD_sl, isiD_lt, isiD_si, isiD_li, isiD_bb, eqD_int, okD_i, List.set_cons_zero, List.set_cons_succ, List.getElem?_cons_zero, List.getElem?_cons_succ, List.length_cons, List.length_nil, List.map_cons, List.map_nil, Option.bind_some, put_same, Bool.xor_false, Bool.false_xor, e, e2]
    simp only [nextD, if_true] at h
    refine ⟨fun k => ?_, fun k => ?_⟩
    · rw [if_pos (of_decide_eq_true k)] at h
      exact ⟨by decide, Rt.same h⟩
    · rw [if_neg (of_decide_eq_false k)] at h
      exact Rt.same h
/-! begun -/
abbrev N_begun : List Str := []
def A_begun : ASp := fun ds L K => ds = [] ∧ K (.tup [.int (-1), .int 1000000001]) L
def t_begun : ATS :=
  (aRet (aTup (aCons (aNeg (aC (.int 1))) (aCons (aOp oAdd (aC (.int 1000000000)) (aC (.int 1))) aNil))))
theorem r_begun {ds : List D} {L : Lg} {Kk : AK} (h : A_begun ds L Kk) : t_begun { nx := fun _ L' => Rt Kk .non L', rt := Rt Kk } (startD N_begun ds) L := by
  obtain ⟨rfl, h⟩ := h
  show t_begun _ [] L
  unfold t_begun
  simp only [aSeq, aAsg, Tg.A, aVar, aC, aOp, aCons, aNil, aCall, aTup, aLst, aLstM, aFrz, aRet, aIfS, aNext, aDrop, aNever, aB, aAnd, aOr, aNot, aAndV, aOrV, aNotV, aIf, aCh, aNeg, aIsN, isN, oI0, oI, oEq, oIn, oIx, oAdd, oDIn, oDGet, oSub, oMod, oFdiv, oPow, oMul, oLt, oLe, oGt, oGe, pLe, pLt, see, items, cLen, cAll, cAny, cSorted, cSortedM, cSum, cMax, cMax2, cMin2, cList, cListM, cTuple, aIsi, aTupRg, aLstRg, oNone, oSome, aSl, aRev, aRevM, aBM, mAppend, mPopAt, mInsert, aDNew, aSetI, aSetD, aPar3, aAsgU, aLenSetS, aTabS, oIsB, mIndex, cMinT, aFor, aWhile, iSeq, seqOf, iRg1, iRg2, iZip, iEnum, aYes, aLc, aLcM, aPar, wipeD, setAll, tyD, eq_self, true_implies, false_implies, implies_true, and_true, true_and, ne_eq, not_false_eq_true, reduceCtorEq, Bool.not_true, Bool.not_false, ix30, ix32, at30, at31, at32, isiD_ii, isiD_bi, isiD_tt, isiD_ll, isiD_il, isiD_bl2, isiD_it, isiD_bt, isiD_st, isiD_sl, isiD_lt, isiD_si, isiD_li, isiD_bb, eqD_int, okD_i, List.set_cons_zero, List.set_cons_succ, List.getElem?_cons_zero, List.getElem?_cons_succ, List.length_cons, List.length_nil, List.map_cons, List.map_nil, Option.bind_some, put_same, Bool.xor_false, Bool.false_xor]
  exact ⟨by decide, Rt.same h⟩
/-! good_from -/
abbrev N_good_from : List Str := ["row", "at", "last", "known", "spot", "some", "side", "there"]
def gKey (i : Nat) (u v : Int) : NestedKey := .tup [.num i, .tup [.num u, .num v]]
structure Memo (r : List Int) (kvs : List (NestedKey × D)) : Prop where
  all : ∀ x ∈ kvs, ∃ (i : Nat) (u v : Int), x = (gKey i u v, .bl (goodB (r.drop i) u v)) ∧ i ≤ r.length ∧ u ∈ -1 :: r ∧ v ∈ 1000000001 :: r
  nd : (kvs.map (·.1)).Nodup
theorem Memo.nil (r : List Int) : Memo r [] := ⟨by simp, by simp⟩
theorem Memo.few {r : List Int} {kvs : List (NestedKey × D)} (h : Memo r kvs) (hr : r.length ≤ 40) : kvs.length < 1000000 := by
  have h1 := List.Nodup.length_le_of_subset (l₂ := (List.range (r.length + 1)).flatMap fun i => (-1 :: r).flatMap fun u => (1000000001 :: r).map fun v => gKey i u v) h.nd (fun k hk => by
    obtain ⟨x, hx, rfl⟩ := List.mem_map.mp hk
    obtain ⟨i, u, v, rfl, hi, hu, hv⟩ := h.all x hx
    rw [List.mem_flatMap]
    refine ⟨i, List.mem_range.mpr (by omega), ?_⟩
    rw [List.mem_flatMap]
    exact ⟨u, hu, List.mem_map.mpr ⟨v, hv, rfl⟩⟩)
  have h2 := len_flat (l := List.range (r.length + 1)) (f := fun i => (-1 :: r).flatMap fun u => (1000000001 :: r).map fun v => gKey i u v) (m := 41 * 41) (fun i _ => by
    refine Nat.le_trans (len_flat (m := 41) fun u _ => by rw [List.length_map, List.length_cons]; omega) ?_
    exact Nat.mul_le_mul_right _ (by rw [List.length_cons]; omega))
  rw [List.length_map] at h1
  rw [List.length_range] at h2
  have h3 : (r.length + 1) * (41 * 41) ≤ 41 * (41 * 41) := Nat.mul_le_mul_right _ (by omega)
  omega
theorem Memo.get {r : List Int} {kvs : List (NestedKey × D)} (h : Memo r kvs) {i : Nat} {u v : Int} {d : D} (e : dget kvs (gKey i u v) = some d) : d = .bl (goodB (r.drop i) u v) := by
  obtain ⟨j, a, b, e2, _⟩ := h.all _ (dget_mem e)
  unfold gKey at e2
  injection e2 with e3 e4
  injection e3 with e5
  injection e5 with e6 e7
  injection e6 with e8
  injection e7 with e9 _
  injection e9 with e10
  injection e10 with e11 e12
  injection e11 with e13
  injection e12 with e14 _
  injection e14 with e15
  have : i = j := by omega
  subst this; subst e13; subst e15
  exact e4
theorem Memo.put {r : List Int} {kvs : List (NestedKey × D)} (h : Memo r kvs) {i : Nat} {u v : Int} (hi : i ≤ r.length) (hu : u ∈ -1 :: r) (hv : v ∈ 1000000001 :: r) : Memo r (dput kvs (gKey i u v) (.bl (goodB (r.drop i) u v))) :=
  ⟨fun x hx => (dput_mem hx).elim (fun e => ⟨i, u, v, e, hi, hu, hv⟩) (h.all x), dput_keys _ _ _ h.nd⟩
def A_gf (n : Nat) : ASp := fun ds L K => ∃ (r : List Int) (i : Nat) (u v : Int) (p : Addr) (kvs : List (NestedKey × D)), ds = [.tup (r.map .int), .int i, .tup [.int u, .int v], .ref p] ∧ L p = some (.dct kvs) ∧ Memo r kvs ∧ r.length ≤ 40 ∧ i ≤ r.length ∧ r.length - i ≤ n ∧ u ∈ -1 :: r ∧ v ∈ 1000000001 :: r ∧
  ∀ kvs', Memo r kvs' → K (.bl (goodB (r.drop i) u v)) (put L p (.dct kvs'))
def A_gfp : Nat → ASp
  | 0 => fun _ _ _ => False
  | n + 1 => A_gf n
def A_good_from : ASp := A_gf 40
def t_good_from (Arec : ASp) : ATS :=
  (aSeq (aIfS (aB (aOp (oEq false) (aVar 1) (aCall cLen (aCons (aVar 0) aNil)))) (aRet (aC (.bl true))) aNext)
  (aSeq (aAsg (aTup (aCons (aVar 1) (aCons (aVar 2) aNil))) (.one 4))
  (aSeq (aIfS (aB (aOp (oDIn true) (aVar 4) (aVar 3))) (aSeq (aAsg (aLc (iSeq (aTup (aCons (aC (.str "down")) (aCons (aC (.str "up")) aNil)))) (.one 6) aYes (aCall A_next_last (aCons (aVar 2) (aCons (aOp oIx (aVar 0) (aVar 1)) (aCons (aVar 6) aNil)))) [6]) (.one 5))
  (aSetD (aCall cAny (aCons (aLc (iSeq (aVar 5)) (.one 7) aYes (aAndV (aIsN true (aVar 7)) (aCall Arec (aCons (aVar 0) (aCons (aOp oAdd (aVar 1) (aC (.int 1))) (aCons (aVar 7) (aCons (aVar 3) aNil)))))) [7]) aNil)) (aVar 3) (aVar 4))) aNext)
  (aRet (aOp oDGet (aVar 3) (aVar 4))))))
theorem r_good_from (n : Nat) {ds : List D} {L : Lg} {Kk : AK} (h : A_gf n ds L Kk) : t_good_from (A_gfp n) { nx := fun _ L' => Rt Kk .non L', rt := Rt Kk } (startD N_good_from ds) L := by
  obtain ⟨r, i, u, v, p, kvs, rfl, hp, hm, hr, hi, hn, hu, hv, h⟩ := h
  show t_good_from _ _ [some (.tup (r.map .int)), some (.int i), some (.tup [.int u, .int v]), some (.ref p), none, none, none, none] L
  unfold t_good_from
  have hk : keyOf (.tup [.int i, .tup [.int u, .int v]]) = some (.tup [.num i, .tup [.num u, .num v]]) := rfl
  have hd : (NestedKey.tup [.num i, .tup [.num u, .num v]]).depth ≤ 8 := Nat.le_of_ble_eq_true rfl
  simp only [aSeq, aAsg, Tg.A, aVar, aC, aOp, aCons, aNil, aCall, aTup, aLst, aLstM, aFrz, aRet, aIfS, aNext, aDrop, aNever, aB, aAnd, aOr, aNot, aAndV, aOrV, aNotV, aIf, aCh, aNeg, aIsN, isN, oI0, oI, oEq, oIn, oIx, oAdd, oDIn, oDGet, oSub, oMod, oFdiv, oPow, oMul, oLt, oLe, oGt, oGe, pLe, pLt, see, items, cLen, cAll, cAny, cSorted, cSortedM, cSum, cMax, cMax2, cMin2, cList, cListM, cTuple, aIsi, aTupRg, aLstRg, oNone, oSome, aSl, aRev, aRevM, aBM, mAppend, mPopAt, mInsert, aDNew, aSetI, aSetD, aPar3, aAsgU, aLenSetS, aTabS, oIsB, mIndex, cMinT, aFor, aWhile, iSeq, seqOf, iRg1, iRg2, iZip, iEnum, aYes, aLc, aLcM, aPar, wipeD, setAll, tyD, eq_self, true_implies, false_implies, implies_true, and_true, true_and, ne_eq, not_false_eq_true, reduceCtorEq, Bool.not_true, Bool.not_false, ix30, ix32, at30, at31, at32, isiD_ii, isiD_bi, isiD_tt, isiD_ll, isiD_il, isiD_bl2, isiD_it, isiD_bt, isiD_st, isiD_sl, isiD_lt, isiD_si, isiD_li, isiD_bb, eqD_int, okD_i, List.set_cons_zero, List.set_cons_succ, List.getElem?_cons_zero, List.getElem?_cons_succ, List.length_cons, List.length_nil, List.map_cons, List.map_nil, Option.bind_some, put_same, Bool.xor_false, Bool.false_xor, List.length_map, hp, hk]
  refine ⟨fun _ => ?_, fun _ => ?_⟩
  · rename_i e
    have e2 : i = r.length := by have e3 := of_decide_eq_true e; omega
    refine Rt.same ?_
    have := h kvs hm
    rw [put_self hp, e2, List.drop_length] at this
    exact this
  rename_i e
  have e2 : i ≠ r.length := by have e3 := of_decide_eq_false e; omega
  cases n with
  | zero => omega
  | succ n =>
  refine ⟨by omega, hd, fun e3 => ?_, fun e3 => ?_⟩
  · have hc : r[i]? = some (r[i]'(by omega)) := List.getElem?_eq_getElem _
    have hdr : r.drop i = r[i]'(by omega) :: r.drop (i + 1) := List.drop_eq_getElem_cons _
    generalize r[i]'(by omega) = c at hc hdr
    have hat : atI (r.map D.int) (i : Int) = some (.int c) := by
      unfold atI ixN
      rw [if_pos (by omega), if_pos (by rw [List.length_map]; omega), Option.bind_some, Int.toNat_natCast, List.getElem?_map, hc]
      rfl
    have hcr : c ∈ r := List.mem_of_getElem? hc
    refine ⟨by decide, by decide, ?_⟩
    simp only [aSeq, aAsg, Tg.A, aVar, aC, aOp, aCons, aNil, aCall, aTup, aLst, aLstM, aFrz, aRet, aIfS, aNext, aDrop, aNever, aB, aAnd, aOr, aNot, aAndV, aOrV, aNotV, aIf, aCh, aNeg, aIsN, isN, oI0, oI, oEq, oIn, oIx, oAdd, oDIn, oDGet, oSub, oMod, oFdiv, oPow, oMul, oLt, oLe, oGt, oGe, pLe, pLt, see, items, cLen, cAll, cAny, cSorted, cSortedM, cSum, cMax, cMax2, cMin2, cList, cListM, cTuple, aIsi, aTupRg, aLstRg, oNone, oSome, aSl, aRev, aRevM, aBM, mAppend, mPopAt, mInsert, aDNew, aSetI, aSetD, aPar3, aAsgU, aLenSetS, aTabS, oIsB, mIndex, cMinT, aFor, aWhile, iSeq, seqOf, iRg1, iRg2, iZip, iEnum, aYes, aLc, aLcM, aPar, wipeD, setAll, tyD, eq_self, true_implies, false_implies, implies_true, and_true, true_and, ne_eq, not_false_eq_true, reduceCtorEq, Bool.not_true, Bool.not_false, ix30, ix32, at30, at31, at32, isiD_ii, isiD_bi, isiD_tt, isiD_ll, isiD_il, isiD_bl2, isiD_it, isiD_bt, isiD_st, isiD_sl, isiD_lt, isiD_si, isiD_li, isiD_bb, eqD_int, okD_i, List.set_cons_zero, List.set_cons_succ, List.getElem?_cons_zero, List.getElem?_cons_succ, List.length_cons, List.length_nil, List.map_cons, List.map_nil, Option.bind_some, put_same, Bool.xor_false, Bool.false_xor, lcA, hat]
    refine ⟨u, v, c, false, rfl, u, v, c, true, rfl, by simp, ?_⟩
    show lcA _ _ _ _ _ ([false, true].map (nextD u v c)) [] _ _
    refine lcA_mapL (fun L' => ∃ kvs', Memo r kvs' ∧ L' = put L p (.dct kvs')) [false, true] (nextD u v c) (fun up => [.bl (if up then decide (u < c) && goodB (r.drop (i + 1)) c v else decide (c < v) && goodB (r.drop (i + 1)) u c)]) (fun _ _ => trivial) (fun up _ L' R J hR => ?_) (fun L' J => ?_) ⟨kvs, hm, (put_self hp).symm⟩
    · obtain ⟨kvs', hm', rfl⟩ := J
      have hj : ∀ b, R [.bl (if up then decide (u < c) && goodB (r.drop (i + 1)) c v else decide (c < v) && goodB (r.drop (i + 1)) u c)] b → True := fun _ _ => trivial
      cases up
      · simp only [nextD, Bool.false_eq_true, if_false] at hR ⊢
        by_cases hlt : c < v
        · simp only [aSeq, aAsg, Tg.A, aVar, aC, aOp, aCons, aNil, aCall, aTup, aLst, aLstM, aFrz, aRet, aIfS, aNext, aDrop, aNever, aB, aAnd, aOr, aNot, aAndV, aOrV, aNotV, aIf, aCh, aNeg, aIsN, isN, oI0, oI, oEq, oIn, oIx, oAdd, oDIn, oDGet, oSub, oMod, oFdiv, oPow, oMul, oLt, oLe, oGt, oGe, pLe, pLt, see, items, cLen, cAll, cAny, cSorted, cSortedM, cSum, cMax, cMax2, cMin2, cList, cListM, cTuple, aIsi, aTupRg, aLstRg, oNone, oSome, aSl, aRev, aRevM, aBM, mAppend, mPopAt, mInsert, aDNew, aSetI, aSetD, aPar3, aAsgU, aLenSetS, aTabS, oIsB, mIndex, cMinT, aFor, aWhile, iSeq, seqOf, iRg1, iRg2, iZip, iEnum, aYes, aLc, aLcM, aPar, wipeD, setAll, tyD, eq_self, true_implies, false_implies, implies_true, and_true, true_and, ne_eq, not_false_eq_true, reduceCtorEq, Bool.not_true, Bool.not_false, ix30, ix32, at30, at31, at32, isiD_ii, isiD_bi, isiD_tt, isiD_ll, isiD_il, isiD_bl2, isiD_it, isiD_bt, isiD_st, isiD_sl, isiD_lt, isiD_si, isiD_li, isiD_bb, eqD_int, okD_i, List.set_cons_zero, List.set_cons_succ, List.getElem?_cons_zero, List.getElem?_cons_succ, List.length_cons, List.length_nil, List.map_cons, List.map_nil, Option.bind_some, put_same, Bool.xor_false, Bool.false_xor, if_pos hlt]
          refine ⟨r, i + 1, u, c, p, kvs', by simp, put_same, hm', hr, by omega, by omega, hu, by simp [hcr], fun kvs2 m2 => ?_⟩
          have := hR (put L p (.dct kvs2)) ⟨kvs2, m2, rfl⟩
          rw [put_put]
          simpa [hlt] using this
        · simp only [aSeq, aAsg, Tg.A, aVar, aC, aOp, aCons, aNil, aCall, aTup, aLst, aLstM, aFrz, aRet, aIfS, aNext, aDrop, aNever, aB, aAnd, aOr, aNot, aAndV, aOrV, aNotV, aIf, aCh, aNeg, aIsN, isN, oI0, oI, oEq, oIn, oIx, oAdd, oDIn, oDGet, oSub, oMod, oFdiv, oPow, oMul, oLt, oLe, oGt, oGe, pLe, pLt, see, items, cLen, cAll, cAny, cSorted, cSortedM, cSum, cMax, cMax2, cMin2, cList, cListM, cTuple, aIsi, aTupRg, aLstRg, oNone, oSome, aSl, aRev, aRevM, aBM, mAppend, mPopAt, mInsert, aDNew, aSetI, aSetD, aPar3, aAsgU, aLenSetS, aTabS, oIsB, mIndex, cMinT, aFor, aWhile, iSeq, seqOf, iRg1, iRg2, iZip, iEnum, aYes, aLc, aLcM, aPar, wipeD, setAll, tyD, eq_self, true_implies, false_implies, implies_true, and_true, true_and, ne_eq, not_false_eq_true, reduceCtorEq, Bool.not_true, Bool.not_false, ix30, ix32, at30, at31, at32, isiD_ii, isiD_bi, isiD_tt, isiD_ll, isiD_il, isiD_bl2, isiD_it, isiD_bt, isiD_st, isiD_sl, isiD_lt, isiD_si, isiD_li, isiD_bb, eqD_int, okD_i, List.set_cons_zero, List.set_cons_succ, List.getElem?_cons_zero, List.getElem?_cons_succ, List.length_cons, List.length_nil, List.map_cons, List.map_nil, Option.bind_some, put_same, Bool.xor_false, Bool.false_xor, if_neg hlt]
          have := hR _ ⟨kvs', hm', rfl⟩
          simpa [hlt] using this
      · simp only [nextD, if_true] at hR ⊢
        by_cases hlt : u < c
        · simp only [aSeq, aAsg, Tg.A, aVar, aC, aOp, aCons, aNil, aCall, aTup, aLst, aLstM, aFrz, aRet, aIfS, aNext, aDrop, aNever, aB, aAnd, aOr, aNot, aAndV, aOrV, aNotV, aIf, aCh, aNeg, aIsN, isN, oI0, oI, oEq, oIn, oIx, oAdd, oDIn, oDGet, oSub, oMod, oFdiv, oPow, oMul, oLt, oLe, oGt, oGe, pLe, pLt, see, items, cLen, cAll, cAny, cSorted, cSortedM, cSum, cMax, cMax2, cMin2, cList, cListM, cTuple, aIsi, aTupRg, aLstRg, oNone, oSome, aSl, aRev, aRevM, aBM, mAppend, mPopAt, mInsert, aDNew, aSetI, aSetD, aPar3, aAsgU, aLenSetS, aTabS, oIsB, mIndex, cMinT, aFor, aWhile, iSeq, seqOf, iRg1, iRg2, iZip, iEnum, aYes, aLc, aLcM, aPar, wipeD, setAll, tyD, eq_self, true_implies, false_implies, implies_true, and_true, true_and, ne_eq, not_false_eq_true, reduceCtorEq, Bool.not_true, Bool.not_false, ix30, ix32, at30, at31, at32, isiD_ii, isiD_bi, isiD_tt, isiD_ll, isiD_il, isiD_bl2, isiD_it, isiD_bt, isiD_st, isiD_sl, isiD_lt, isiD_si, isiD_li, isiD_bb, eqD_int, okD_i, List.set_cons_zero, List.set_cons_succ, List.getElem?_cons_zero, List.getElem?_cons_succ, List.length_cons, List.length_nil, List.map_cons, List.map_nil, Option.bind_some, put_same, Bool.xor_false, Bool.false_xor, if_pos hlt]
          refine ⟨r, i + 1, c, v, p, kvs', by simp, put_same, hm', hr, by omega, by omega, by simp [hcr], hv, fun kvs2 m2 => ?_⟩
          have := hR (put L p (.dct kvs2)) ⟨kvs2, m2, rfl⟩
          rw [put_put]
          simpa [hlt] using this
        · simp only [aSeq, aAsg, Tg.A, aVar, aC, aOp, aCons, aNil, aCall, aTup, aLst, aLstM, aFrz, aRet, aIfS, aNext, aDrop, aNever, aB, aAnd, aOr, aNot, aAndV, aOrV, aNotV, aIf, aCh, aNeg, aIsN, isN, oI0, oI, oEq, oIn, oIx, oAdd, oDIn, oDGet, oSub, oMod, oFdiv, oPow, oMul, oLt, oLe, oGt, oGe, pLe, pLt, see, items, cLen, cAll, cAny, cSorted, cSortedM, cSum, cMax, cMax2, cMin2, cList, cListM, cTuple, aIsi, aTupRg, aLstRg, oNone, oSome, aSl, aRev, aRevM, aBM, mAppend, mPopAt, mInsert, aDNew, aSetI, aSetD, aPar3, aAsgU, aLenSetS, aTabS, oIsB, mIndex, cMinT, aFor, aWhile, iSeq, seqOf, iRg1, iRg2, iZip, iEnum, aYes, aLc, aLcM, aPar, wipeD, setAll, tyD, eq_self, true_implies, false_implies, implies_true, and_true, true_and, ne_eq, not_false_eq_true, reduceCtorEq, Bool.not_true, Bool.not_false, ix30, ix32, at30, at31, at32, isiD_ii, isiD_bi, isiD_tt, isiD_ll, isiD_il, isiD_bl2, isiD_it, isiD_bt, isiD_st, isiD_sl, isiD_lt, isiD_si, isiD_li, isiD_bb, eqD_int, okD_i, List.set_cons_zero, List.set_cons_succ, List.getElem?_cons_zero, List.getElem?_cons_succ, List.length_cons, List.length_nil, List.map_cons, List.map_nil, Option.bind_some, put_same, Bool.xor_false, Bool.false_xor, if_neg hlt]
          have := hR _ ⟨kvs', hm', rfl⟩
          simpa [hlt] using this
    · obtain ⟨kvs', hm', rfl⟩ := J
      have hg : ((decide (c < v) && goodB (r.drop (i + 1)) u c) || ((decide (u < c) && goodB (r.drop (i + 1)) c v) || false)) = goodB (r.drop i) u v := by
        rw [hdr, goodB, Bool.or_false, Bool.or_comm]
      have hb : asBls ([false, true].flatMap fun up => [D.bl (if up then decide (u < c) && goodB (r.drop (i + 1)) c v else decide (c < v) && goodB (r.drop (i + 1)) u c)]) = some [decide (c < v) && goodB (r.drop (i + 1)) u c, decide (u < c) && goodB (r.drop (i + 1)) c v] := rfl
      rw [hb]
      simp only [aSeq, aAsg, Tg.A, aVar, aC, aOp, aCons, aNil, aCall, aTup, aLst, aLstM, aFrz, aRet, aIfS, aNext, aDrop, aNever, aB, aAnd, aOr, aNot, aAndV, aOrV, aNotV, aIf, aCh, aNeg, aIsN, isN, oI0, oI, oEq, oIn, oIx, oAdd, oDIn, oDGet, oSub, oMod, oFdiv, oPow, oMul, oLt, oLe, oGt, oGe, pLe, pLt, see, items, cLen, cAll, cAny, cSorted, cSortedM, cSum, cMax, cMax2, cMin2, cList, cListM, cTuple, aIsi, aTupRg, aLstRg, oNone, oSome, aSl, aRev, aRevM, aBM, mAppend, mPopAt, mInsert, aDNew, aSetI, aSetD, aPar3, aAsgU, aLenSetS, aTabS, oIsB, mIndex, cMinT, aFor, aWhile, iSeq, seqOf, iRg1, iRg2, iZip, iEnum, aYes, aLc, aLcM, aPar, wipeD, setAll, tyD, eq_self, true_implies, false_implies, implies_true, and_true, true_and, ne_eq, not_false_eq_true, reduceCtorEq, Bool.not_true, Bool.not_false, ix30, ix32, at30, at31, at32, isiD_ii, isiD_bi, isiD_tt, isiD_ll, isiD_il, isiD_bl2, isiD_it, isiD_bt, isiD_st, isiD_sl, isiD_lt, isiD_si, isiD_li, isiD_bb, eqD_int, okD_i, List.set_cons_zero, List.set_cons_succ, List.getElem?_cons_zero, List.getElem?_cons_succ, List.length_cons, List.length_nil, List.map_cons, List.map_nil, Option.bind_some, put_same, Bool.xor_false, Bool.false_xor, List.any_cons, List.any_nil, id_eq, hg, hk]
      have m2 := hm'.put hi hu hv
      have hget : dget (dput kvs' (.tup [.num i, .tup [.num u, .num v]]) (.bl (goodB (r.drop i) u v))) (.tup [.num i, .tup [.num u, .num v]]) = some (.bl (goodB (r.drop i) u v)) := dget_dput _ _ _
      refine ⟨hd, hm'.few hr, hd, ?_⟩
      rw [hget]
      rw [put_put]
      exact Rt.same (h _ m2)
  · have hs : (dget kvs (gKey i u v)).isSome = true := by simpa [gKey] using e3
    obtain ⟨d, hd2⟩ := Option.isSome_iff_exists.mp hs
    have := hm.get hd2
    subst this
    have hd3 : dget kvs (.tup [.num i, .tup [.num u, .num v]]) = some (.bl (goodB (r.drop i) u v)) := hd2
    refine ⟨hd, ?_⟩
    rw [hd3]
    have := h kvs hm
    rw [put_self hp] at this
    exact Rt.same this
/-! all_partings -/
abbrev N_all_partings : List Str := ["row", "known", "rows", "at", "card", "more", "sides_so", "last", "side", "there"]
def A_all_partings : ASp := fun ds L K => ∃ r : List Int, ds = [.tup (r.map .int)] ∧ Row r ∧ K (.lst ((ptsR r).map maskD)) L
theorem nextD_cases (r : List Int) (c u v : Int) (mk : List Bool) (b : Bool) : (nextD u v c b = .non ∧ stepP r c (mk, u, v) b = []) ∨
    ∃ u' v', nextD u v c b = .tup [.int u', .int v'] ∧ (u' = u ∨ u' = c) ∧ (v' = v ∨ v' = c) ∧ stepP r c (mk, u, v) b = if goodB r u' v' = true then [(mk ++ [b], u', v')] else [] := by
  cases b with
  | true =>
    simp only [nextD, stepP, if_true]
    by_cases h : u < c
    · exact .inr ⟨c, v, by rw [if_pos h], .inr rfl, .inl rfl, by simp only [h, true_and]⟩
    · exact .inl ⟨by rw [if_neg h], by rw [if_neg fun z => h z.1]⟩
  | false =>
    simp only [nextD, stepP, Bool.false_eq_true, if_false]
    by_cases h : c < v
    · exact .inr ⟨u, c, by rw [if_pos h], .inl rfl, .inr rfl, by simp only [h, true_and]⟩
    · exact .inl ⟨by rw [if_neg h], by rw [if_neg fun z => h z.1]⟩
def t_all_partings : ATS :=
  (aSeq (aAsg aDNew (.one 1))
  (aSeq (aAsg (aIf (aB (aCall A_good_from (aCons (aVar 0) (aCons (aC (.int 0)) (aCons (aCall A_begun aNil) (aCons (aVar 1) aNil)))))) (aLst (aCons (aTup (aCons (aTup aNil) (aCons (aCall A_begun aNil) aNil))) aNil)) (aLst aNil)) (.one 2))
  (aSeq (aFor (iEnum (aVar 0)) (.many [3, 4]) (aSeq (aAsg (aLstM aNil) (.one 5))
  (aSeq (aFor (iSeq (aVar 2)) (.many [6, 7]) (aFor (iSeq (aTup (aCons (aC (.str "down")) (aCons (aC (.str "up")) aNil)))) (.one 8) (aSeq (aAsg (aCall A_next_last (aCons (aVar 7) (aCons (aVar 4) (aCons (aVar 8) aNil)))) (.one 9))
  (aIfS (aAnd (aB (aIsN true (aVar 9))) (aB (aCall A_good_from (aCons (aVar 0) (aCons (aOp oAdd (aVar 3) (aC (.int 1))) (aCons (aVar 9) (aCons (aVar 1) aNil))))))) (aDrop (aBM mAppend (aVar 5) (aCons (aTup (aCons (aOp oAdd (aVar 6) (aTup (aCons (aVar 8) aNil))) (aCons (aVar 9) aNil))) aNil))) aNext))))
  (aAsg (aFrz (aVar 5)) (.one 2)))))
  (aRet (aLc (iSeq (aVar 2)) (.many [6, 7]) aYes (aVar 6) [6, 7])))))
theorem r_all_partings {ds : List D} {L : Lg} {Kk : AK} (h : A_all_partings ds L Kk) : t_all_partings { nx := fun _ L' => Rt Kk .non L', rt := Rt Kk } (startD N_all_partings ds) L := by
  obtain ⟨r, rfl, hr, h⟩ := h
  show t_all_partings _ [some (.tup (r.map .int)), none, none, none, none, none, none, none, none, none] L
  unfold t_all_partings
  have hfew := hr.few
  have hpts : (ptsR r).length ≤ 1681 := Nat.le_trans (pts_few (r := r) hr.rng) (Nat.mul_le_mul (show r.length + 1 ≤ 41 by omega) (show r.length + 1 ≤ 41 by omega))
  simp only [aSeq, aAsg, Tg.A, aVar, aC, aOp, aCons, aNil, aCall, aTup, aLst, aLstM, aFrz, aRet, aIfS, aNext, aDrop, aNever, aB, aAnd, aOr, aNot, aAndV, aOrV, aNotV, aIf, aCh, aNeg, aIsN, isN, oI0, oI, oEq, oIn, oIx, oAdd, oDIn, oDGet, oSub, oMod, oFdiv, oPow, oMul, oLt, oLe, oGt, oGe, pLe, pLt, see, items, cLen, cAll, cAny, cSorted, cSortedM, cSum, cMax, cMax2, cMin2, cList, cListM, cTuple, aIsi, aTupRg, aLstRg, oNone, oSome, aSl, aRev, aRevM, aBM, mAppend, mPopAt, mInsert, aDNew, aSetI, aSetD, aPar3, aAsgU, aLenSetS, aTabS, oIsB, mIndex, cMinT, aFor, aWhile, iSeq, seqOf, iRg1, iRg2, iZip, iEnum, aYes, aLc, aLcM, aPar, wipeD, setAll, tyD, eq_self, true_implies, false_implies, implies_true, and_true, true_and, ne_eq, not_false_eq_true, reduceCtorEq, Bool.not_true, Bool.not_false, ix30, ix32, at30, at31, at32, isiD_ii, isiD_bi, isiD_tt, isiD_ll, isiD_il, isiD_bl2, isiD_it, isiD_bt, isiD_st, isiD_sl, isiD_lt, isiD_si, isiD_li, isiD_bb, eqD_int, okD_i, List.set_cons_zero, List.set_cons_succ, List.getElem?_cons_zero, List.getElem?_cons_succ, List.length_cons, List.length_nil, List.map_cons, List.map_nil, Option.bind_some, put_same, Bool.xor_false, Bool.false_xor, A_begun]
  intro p hp
  refine ⟨r, 0, -1, 1000000001, p, [], rfl, put_same, Memo.nil r, hfew, by omega, by omega, by simp, by simp, fun kvs0 m0 => ?_⟩
  simp only [aSeq, aAsg, Tg.A, aVar, aC, aOp, aCons, aNil, aCall, aTup, aLst, aLstM, aFrz, aRet, aIfS, aNext, aDrop, aNever, aB, aAnd, aOr, aNot, aAndV, aOrV, aNotV, aIf, aCh, aNeg, aIsN, isN, oI0, oI, oEq, oIn, oIx, oAdd, oDIn, oDGet, oSub, oMod, oFdiv, oPow, oMul, oLt, oLe, oGt, oGe, pLe, pLt, see, items, cLen, cAll, cAny, cSorted, cSortedM, cSum, cMax, cMax2, cMin2, cList, cListM, cTuple, aIsi, aTupRg, aLstRg, oNone, oSome, aSl, aRev, aRevM, aBM, mAppend, mPopAt, mInsert, aDNew, aSetI, aSetD, aPar3, aAsgU, aLenSetS, aTabS, oIsB, mIndex, cMinT, aFor, aWhile, iSeq, seqOf, iRg1, iRg2, iZip, iEnum, aYes, aLc, aLcM, aPar, wipeD, setAll, tyD, eq_self, true_implies, false_implies, implies_true, and_true, true_and, ne_eq, not_false_eq_true, reduceCtorEq, Bool.not_true, Bool.not_false, ix30, ix32, at30, at31, at32, isiD_ii, isiD_bi, isiD_tt, isiD_ll, isiD_il, isiD_bl2, isiD_it, isiD_bt, isiD_st, isiD_sl, isiD_lt, isiD_si, isiD_li, isiD_bb, eqD_int, okD_i, List.set_cons_zero, List.set_cons_succ, List.getElem?_cons_zero, List.getElem?_cons_succ, List.length_cons, List.length_nil, List.map_cons, List.map_nil, Option.bind_some, put_same, Bool.xor_false, Bool.false_xor, put_put]
  refine ⟨fun _ => ?_, fun _ => ?_⟩
  case' refine_1 =>
    rename_i hg
    refine ⟨by simp, by simp, by simp, ?_⟩
    have h0 : Held r 0 [([], -1, 1000000001)] := ⟨fun x hx => by rw [List.mem_singleton] at hx; subst hx; exact hg, fun x hx => by rw [List.mem_singleton] at hx; subst hx; rfl, fun x hx => by rw [List.mem_singleton] at hx; subst hx; simp, fun x hx => by rw [List.mem_singleton] at hx; subst hx; simp⟩
    have h1 : ([([], -1, 1000000001)] : List PI3).flatMap (extB (r.drop 0)) = ptsR r := by
      simp [extB, ptsR]
    have e : D.lst [.tup [.tup [], .tup [.int (-1), .int 1000000001]]] = .lst (([([], -1, 1000000001)] : List PI3).map itemD) := rfl
    rw [e]
    generalize ([([], -1, 1000000001)] : List PI3) = rows0 at h0 h1
  case' refine_2 =>
    rename_i hg
    refine ⟨by simp, ?_⟩
    have h0 : Held r 0 [] := Held.nil r 0
    have h1 : ([] : List PI3).flatMap (extB (r.drop 0)) = ptsR r := by
      have : ptsR r = [] := by
        have g := good_pts r (-1) 1000000001
        rw [List.drop_zero] at hg
        rw [hg] at g
        unfold ptsR
        cases e : pts r (-1) 1000000001 with
        | nil => rfl
        | cons a b => rw [e] at g; simp at g
      rw [this]
      rfl
    have e : D.lst [] = .lst (([] : List PI3).map itemD) := rfl
    rw [e]
    generalize ([] : List PI3) = rows0 at h0 h1
  all_goals
    refine forA_ind (fun i Δ L' => ∃ (rows : List PI3) (x3 x4 x5 x6 x7 x8 x9 : Option D) (kvs : List (NestedKey × D)), Δ = [some (.tup (r.map .int)), some (.ref p), some (.lst (rows.map itemD)), x3, x4, x5, x6, x7, x8, x9] ∧ L' = put L p (.dct kvs) ∧ Memo r kvs ∧ Held r i rows ∧ rows.flatMap (extB (r.drop i)) = ptsR r)
      (fun _ _ _ _ => trivial) (fun i d Δ L' N e I hN => ?_) (fun Δ L' I => ?_) ⟨rows0, _, _, _, _, _, _, _, kvs0, rfl, rfl, m0, h0, h1⟩
    · obtain ⟨rows, x3, x4, x5, x6, x7, x8, x9, kvs, rfl, rfl, m, hh, hf⟩ := I
      obtain ⟨dc, hc0, rfl⟩ := enumD_get e
      rw [List.getElem?_map] at hc0
      obtain ⟨c, hc, rfl⟩ := Option.map_eq_some_iff.mp hc0
      clear hc0
      have hcr : c ∈ r := List.mem_of_getElem? hc
      have hi : i < r.length := (List.getElem?_eq_some_iff.mp hc).1
      have hdr : r.drop i = c :: r.drop (i + 1) := by
        rw [List.drop_eq_getElem_cons hi]
        rw [List.getElem?_eq_getElem hi] at hc
        rw [Option.some.inj hc]
      rw [Nat.zero_add]
      simp only [aSeq, aAsg, Tg.A, aVar, aC, aOp, aCons, aNil, aCall, aTup, aLst, aLstM, aFrz, aRet, aIfS, aNext, aDrop, aNever, aB, aAnd, aOr, aNot, aAndV, aOrV, aNotV, aIf, aCh, aNeg, aIsN, isN, oI0, oI, oEq, oIn, oIx, oAdd, oDIn, oDGet, oSub, oMod, oFdiv, oPow, oMul, oLt, oLe, oGt, oGe, pLe, pLt, see, items, cLen, cAll, cAny, cSorted, cSortedM, cSum, cMax, cMax2, cMin2, cList, cListM, cTuple, aIsi, aTupRg, aLstRg, oNone, oSome, aSl, aRev, aRevM, aBM, mAppend, mPopAt, mInsert, aDNew, aSetI, aSetD, aPar3, aAsgU, aLenSetS, aTabS, oIsB, mIndex, cMinT, aFor, aWhile, iSeq, seqOf, iRg1, iRg2, iZip, iEnum, aYes, aLc, aLcM, aPar, wipeD, setAll, tyD, eq_self, true_implies, false_implies, implies_true, and_true, true_and, ne_eq, not_false_eq_true, reduceCtorEq, Bool.not_true, Bool.not_false, ix30, ix32, at30, at31, at32, isiD_ii, isiD_bi, isiD_tt, isiD_ll, isiD_il, isiD_bl2, isiD_it, isiD_bt, isiD_st, isiD_sl, isiD_lt, isiD_si, isiD_li, isiD_bb, eqD_int, okD_i, List.set_cons_zero, List.set_cons_succ, List.getElem?_cons_zero, List.getElem?_cons_succ, List.length_cons, List.length_nil, List.map_cons, List.map_nil, Option.bind_some, put_same, Bool.xor_false, Bool.false_xor]
      refine ⟨by simp, fun q hq => ?_⟩
      obtain ⟨hqp, hqL⟩ := put_none hq
      refine forA_ind (fun j Δ L2 => ∃ (more : List PI3) (y6 y7 y8 y9 : Option D) (kvs2 : List (NestedKey × D)), Δ = [some (.tup (r.map .int)), some (.ref p), some (.lst (rows.map itemD)), some (.int i), some (.int c), some (.ref q), y6, y7, y8, y9] ∧
          L2 p = some (.dct kvs2) ∧ L2 q = some (.lst (more.map itemD)) ∧ (∀ a, a ≠ p → a ≠ q → L2 a = L a) ∧ Memo r kvs2 ∧ Held r (i + 1) more ∧ more.flatMap (extB (r.drop (i + 1))) ++ (rows.drop j).flatMap (extB (r.drop i)) = ptsR r)
        (fun _ _ _ _ => trivial) (fun j d2 Δ2 L2 N2 ee I2 hN2 => ?_) (fun Δ2 L2 I2 => ?_) ⟨[], _, _, _, _, kvs, rfl, by rw [put_ne (Ne.symm hqp), put_same], put_same, fun a h1 h2 => by rw [put_ne h2, put_ne h1], m, Held.nil r _, by simpa using hf⟩
      · obtain ⟨more, y6, y7, y8, y9, kvs2, rfl, z1, z2, z3, m2, hm, hmf⟩ := I2
        rw [List.getElem?_map] at ee
        obtain ⟨x, hx, rfl⟩ := Option.map_eq_some_iff.mp ee
        have hxr : x ∈ rows := List.mem_of_getElem? hx
        have hxl := hh.len x hxr
        have hxu := hh.inU x hxr
        have hxv := hh.inV x hxr
        obtain ⟨mk, u, v⟩ := x
        have hstep := Held.step (i := i) (c := c) (x := (mk, u, v)) hcr hxl hxu hxv
        have hrest : (rows.drop j).flatMap (extB (r.drop i)) = extB (r.drop i) (mk, u, v) ++ (rows.drop (j + 1)).flatMap (extB (r.drop i)) := by
          have hj : j < rows.length := (List.getElem?_eq_some_iff.mp hx).1
          rw [List.drop_eq_getElem_cons hj]
          rw [List.getElem?_eq_getElem hj] at hx
          rw [Option.some.inj hx]
          rfl
        rw [hrest, hdr, ← ext_step] at hmf
        have hit : itemD (mk, u, v) = .tup [.tup (mk.map fun b => .str (sideS b)), .tup [.int u, .int v]] := rfl
        rw [hit]
        simp only [aSeq, aAsg, Tg.A, aVar, aC, aOp, aCons, aNil, aCall, aTup, aLst, aLstM, aFrz, aRet, aIfS, aNext, aDrop, aNever, aB, aAnd, aOr, aNot, aAndV, aOrV, aNotV, aIf, aCh, aNeg, aIsN, isN, oI0, oI, oEq, oIn, oIx, oAdd, oDIn, oDGet, oSub, oMod, oFdiv, oPow, oMul, oLt, oLe, oGt, oGe, pLe, pLt, see, items, cLen, cAll, cAny, cSorted, cSortedM, cSum, cMax, cMax2, cMin2, cList, cListM, cTuple, aIsi, aTupRg, aLstRg, oNone, oSome, aSl, aRev, aRevM, aBM, mAppend, mPopAt, mInsert, aDNew, aSetI, aSetD, aPar3, aAsgU, aLenSetS, aTabS, oIsB, mIndex, cMinT, aFor, aWhile, iSeq, seqOf, iRg1, iRg2, iZip, iEnum, aYes, aLc, aLcM, aPar, wipeD, setAll, tyD, eq_self, true_implies, false_implies, implies_true, and_true, true_and, ne_eq, not_false_eq_true, reduceCtorEq, Bool.not_true, Bool.not_false, ix30, ix32, at30, at31, at32, isiD_ii, isiD_bi, isiD_tt, isiD_ll, isiD_il, isiD_bl2, isiD_it, isiD_bt, isiD_st, isiD_sl, isiD_lt, isiD_si, isiD_li, isiD_bb, eqD_int, okD_i, List.set_cons_zero, List.set_cons_succ, List.getElem?_cons_zero, List.getElem?_cons_succ, List.length_cons, List.length_nil, List.map_cons, List.map_nil, Option.bind_some, put_same, Bool.xor_false, Bool.false_xor]
        refine ⟨by simp, ?_⟩
        show forA _ _ _ _ ([false, true].map fun b => D.str (if b then "up" else "down")) _ _
        refine forA_ind (fun k Δ L3 => ∃ (z8 z9 : Option D) (kvs3 : List (NestedKey × D)), Δ = [some (.tup (r.map .int)), some (.ref p), some (.lst (rows.map itemD)), some (.int i), some (.int c), some (.ref q), some (.tup (mk.map fun b => .str (sideS b))), some (.tup [.int u, .int v]), z8, z9] ∧
            L3 p = some (.dct kvs3) ∧ L3 q = some (.lst ((more ++ ([false, true].take k).flatMap (stepP (r.drop (i + 1)) c (mk, u, v))).map itemD)) ∧ (∀ a, a ≠ p → a ≠ q → L3 a = L a) ∧ Memo r kvs3)
          (fun _ _ _ _ => trivial) (fun k d3 Δ3 L3 N3 e3 I3 hN3 => ?_) (fun Δ3 L3 I3 => ?_) ⟨_, _, kvs2, rfl, z1, by simpa using z2, z3, m2⟩
        · obtain ⟨z8, z9, kvs3, rfl, w1, w2, w3, m3⟩ := I3
          rw [List.getElem?_map] at e3
          obtain ⟨b, hb, rfl⟩ := Option.map_eq_some_iff.mp e3
          have htk : ([false, true].take (k + 1)).flatMap (stepP (r.drop (i + 1)) c (mk, u, v)) = ([false, true].take k).flatMap (stepP (r.drop (i + 1)) c (mk, u, v)) ++ stepP (r.drop (i + 1)) c (mk, u, v) b := by
            rw [List.take_add_one, hb]
            simp
          rw [htk] at hN3
          generalize hcur : more ++ ([false, true].take k).flatMap (stepP (r.drop (i + 1)) c (mk, u, v)) = cur at w2 hN3
          have hcl : cur.length < 1000000 := by
            have h2 := ext_len (hm.app (hstep ([false, true].take k))).good
            rw [hcur] at h2
            have h3 : (cur.flatMap (extB (r.drop (i + 1)))).length ≤ (ptsR r).length := by
              rw [← hmf, ← hcur, List.flatMap_append, List.length_append, List.length_append, List.length_append]
              have h4 : (([false, true].take k).flatMap (stepP (r.drop (i + 1)) c (mk, u, v))).flatMap (extB (r.drop (i + 1))) ++ (([false, true].drop k).flatMap (stepP (r.drop (i + 1)) c (mk, u, v))).flatMap (extB (r.drop (i + 1))) = ([false, true].flatMap (stepP (r.drop (i + 1)) c (mk, u, v))).flatMap (extB (r.drop (i + 1))) := by
                rw [← List.flatMap_append, ← List.flatMap_append, List.take_append_drop]
              have h5 := congrArg List.length h4
              rw [List.length_append] at h5
              omega
            omega
          have fin : ∀ (L4 : Lg) (kvs4 : List (NestedKey × D)) (cur2 : List PI3) (z9 : Option D), L4 p = some (.dct kvs4) → L4 q = some (.lst (cur2.map itemD)) → (∀ a, a ≠ p → a ≠ q → L4 a = L a) → Memo r kvs4 → cur2 = cur ++ stepP (r.drop (i + 1)) c (mk, u, v) b →
              N3 [some (.tup (r.map .int)), some (.ref p), some (.lst (rows.map itemD)), some (.int i), some (.int c), some (.ref q), some (.tup (mk.map fun b => .str (sideS b))), some (.tup [.int u, .int v]), some (.str (if b then "up" else "down")), z9] L4 := by
            intro L4 kvs4 cur2 z9 a1 a2 a3 a4 a5
            refine hN3 _ _ ⟨_, z9, kvs4, rfl, a1, ?_, a3, a4⟩
            rw [a2, a5, ← hcur, List.append_assoc]
          simp only [aSeq, aAsg, Tg.A, aVar, aC, aOp, aCons, aNil, aCall, aTup, aLst, aLstM, aFrz, aRet, aIfS, aNext, aDrop, aNever, aB, aAnd, aOr, aNot, aAndV, aOrV, aNotV, aIf, aCh, aNeg, aIsN, isN, oI0, oI, oEq, oIn, oIx, oAdd, oDIn, oDGet, oSub, oMod, oFdiv, oPow, oMul, oLt, oLe, oGt, oGe, pLe, pLt, see, items, cLen, cAll, cAny, cSorted, cSortedM, cSum, cMax, cMax2, cMin2, cList, cListM, cTuple, aIsi, aTupRg, aLstRg, oNone, oSome, aSl, aRev, aRevM, aBM, mAppend, mPopAt, mInsert, aDNew, aSetI, aSetD, aPar3, aAsgU, aLenSetS, aTabS, oIsB, mIndex, cMinT, aFor, aWhile, iSeq, seqOf, iRg1, iRg2, iZip, iEnum, aYes, aLc, aLcM, aPar, wipeD, setAll, tyD, eq_self, true_implies, false_implies, implies_true, and_true, true_and, ne_eq, not_false_eq_true, reduceCtorEq, Bool.not_true, Bool.not_false, ix30, ix32, at30, at31, at32, isiD_ii, isiD_bi, isiD_tt, isiD_ll, isiD_il, isiD_bl2, isiD_it, isiD_bt, isiD_st, isiD_sl, isiD_lt, isiD_si, isiD_li, isiD_bb, eqD_int, okD_i, List.set_cons_zero, List.set_cons_succ, List.getElem?_cons_zero, List.getElem?_cons_succ, List.length_cons, List.length_nil, List.map_cons, List.map_nil, Option.bind_some, put_same, Bool.xor_false, Bool.false_xor, A_next_last]
          refine ⟨u, v, c, b, rfl, ?_⟩
          rcases nextD_cases (r.drop (i + 1)) c u v mk b with ⟨e1, e2⟩ | ⟨u', v', e1, hu', hv', e2⟩
          · rw [e1]
            refine ⟨fun z => (by cases z), fun _ => fin L3 kvs3 cur _ w1 w2 w3 m3 (by rw [e2, List.append_nil])⟩
          · rw [e1]
            have hU : u' ∈ -1 :: r := hu'.elim (fun e => by rw [e]; exact hxu) fun e => by rw [e]; simp [hcr]
            have hV : v' ∈ 1000000001 :: r := hv'.elim (fun e => by rw [e]; exact hxv) fun e => by rw [e]; simp [hcr]
            refine ⟨fun _ => ⟨r, i + 1, u', v', p, kvs3, by simp, w1, m3, hfew, by omega, by omega, hU, hV, fun kvs4 m4 => ?_⟩, fun z => by cases z⟩
            have wq : put L3 p (.dct kvs4) q = some (.lst (cur.map itemD)) := by rw [put_ne hqp]; exact w2
            have wo : ∀ a, a ≠ p → a ≠ q → put L3 p (.dct kvs4) a = L a := fun a a1 a2 => by rw [put_ne a1]; exact w3 a a1 a2
            refine ⟨fun g => ?_, fun g => ?_⟩
            · simp only [aSeq, aAsg, Tg.A, aVar, aC, aOp, aCons, aNil, aCall, aTup, aLst, aLstM, aFrz, aRet, aIfS, aNext, aDrop, aNever, aB, aAnd, aOr, aNot, aAndV, aOrV, aNotV, aIf, aCh, aNeg, aIsN, isN, oI0, oI, oEq, oIn, oIx, oAdd, oDIn, oDGet, oSub, oMod, oFdiv, oPow, oMul, oLt, oLe, oGt, oGe, pLe, pLt, see, items, cLen, cAll, cAny, cSorted, cSortedM, cSum, cMax, cMax2, cMin2, cList, cListM, cTuple, aIsi, aTupRg, aLstRg, oNone, oSome, aSl, aRev, aRevM, aBM, mAppend, mPopAt, mInsert, aDNew, aSetI, aSetD, aPar3, aAsgU, aLenSetS, aTabS, oIsB, mIndex, cMinT, aFor, aWhile, iSeq, seqOf, iRg1, iRg2, iZip, iEnum, aYes, aLc, aLcM, aPar, wipeD, setAll, tyD, eq_self, true_implies, false_implies, implies_true, and_true, true_and, ne_eq, not_false_eq_true, reduceCtorEq, Bool.not_true, Bool.not_false, ix30, ix32, at30, at31, at32, isiD_ii, isiD_bi, isiD_tt, isiD_ll, isiD_il, isiD_bl2, isiD_it, isiD_bt, isiD_st, isiD_sl, isiD_lt, isiD_si, isiD_li, isiD_bb, eqD_int, okD_i, List.set_cons_zero, List.set_cons_succ, List.getElem?_cons_zero, List.getElem?_cons_succ, List.length_cons, List.length_nil, List.map_cons, List.map_nil, Option.bind_some, put_same, Bool.xor_false, Bool.false_xor, wq]
              refine ⟨⟨_, rfl⟩, by decide, by rw [List.length_map, hxl]; omega, by decide, by rw [List.length_map]; exact hcl, ?_⟩
              refine fin _ kvs4 (cur ++ [(mk ++ [b], u', v')]) _ (by rw [put_ne (Ne.symm hqp), put_same]) ?_ (fun a a1 a2 => by rw [put_ne a2]; exact wo a a1 a2) m4 (by rw [e2, if_pos g])
              rw [put_same, List.map_append]
              have e9 : itemD (mk ++ [b], u', v') = .tup [.tup ((mk.map fun b => .str (sideS b)) ++ [.str (if b = true then "up" else "down")]), .tup [.int u', .int v']] := by
                show D.tup [maskD (mk ++ [b]), _] = _
                rw [← mask_app]
                rfl
              show some (Cell.lst (cur.map itemD ++ _)) = some (Cell.lst (cur.map itemD ++ [itemD (mk ++ [b], u', v')]))
              rw [e9]
            · exact fin _ kvs4 cur _ put_same wq wo m4 (by rw [e2, if_neg (by rw [g]; simp), List.append_nil])
        · obtain ⟨z8, z9, kvs3, rfl, w1, w2, w3, m3⟩ := I3
          refine hN2 _ _ ⟨_, _, _, _, _, kvs3, rfl, w1, w2, w3, m3, hm.app (hstep _), ?_⟩
          rw [List.flatMap_append, List.append_assoc, hdr]
          exact hmf
      · obtain ⟨more, y6, y7, y8, y9, kvs2, rfl, z1, z2, z3, m2, hm, hmf⟩ := I2
        rw [List.length_map, List.drop_length] at hmf
        simp only [aSeq, aAsg, Tg.A, aVar, aC, aOp, aCons, aNil, aCall, aTup, aLst, aLstM, aFrz, aRet, aIfS, aNext, aDrop, aNever, aB, aAnd, aOr, aNot, aAndV, aOrV, aNotV, aIf, aCh, aNeg, aIsN, isN, oI0, oI, oEq, oIn, oIx, oAdd, oDIn, oDGet, oSub, oMod, oFdiv, oPow, oMul, oLt, oLe, oGt, oGe, pLe, pLt, see, items, cLen, cAll, cAny, cSorted, cSortedM, cSum, cMax, cMax2, cMin2, cList, cListM, cTuple, aIsi, aTupRg, aLstRg, oNone, oSome, aSl, aRev, aRevM, aBM, mAppend, mPopAt, mInsert, aDNew, aSetI, aSetD, aPar3, aAsgU, aLenSetS, aTabS, oIsB, mIndex, cMinT, aFor, aWhile, iSeq, seqOf, iRg1, iRg2, iZip, iEnum, aYes, aLc, aLcM, aPar, wipeD, setAll, tyD, eq_self, true_implies, false_implies, implies_true, and_true, true_and, ne_eq, not_false_eq_true, reduceCtorEq, Bool.not_true, Bool.not_false, ix30, ix32, at30, at31, at32, isiD_ii, isiD_bi, isiD_tt, isiD_ll, isiD_il, isiD_bl2, isiD_it, isiD_bt, isiD_st, isiD_sl, isiD_lt, isiD_si, isiD_li, isiD_bb, eqD_int, okD_i, List.set_cons_zero, List.set_cons_succ, List.getElem?_cons_zero, List.getElem?_cons_succ, List.length_cons, List.length_nil, List.map_cons, List.map_nil, Option.bind_some, put_same, Bool.xor_false, Bool.false_xor, z2]
        rw [del_to z1 z3 hqp hqL]
        exact hN _ _ ⟨more, _, _, _, _, _, _, _, kvs2, rfl, rfl, m2, hm, by simpa using hmf⟩
    · obtain ⟨rows, x3, x4, x5, x6, x7, x8, x9, kvs, rfl, rfl, m, hh, hf⟩ := I
      rw [enumD_length, List.length_map] at hh hf
      rw [List.drop_length] at hf
      have hrows : rows.map (·.1) = ptsR r := by
        rw [← hf]
        clear hf hh h0 h1
        induction rows with
        | nil => rfl
        | cons x l ih => rw [List.map_cons, List.flatMap_cons, ← ih]; simp [extB, pts]
      have hlr : rows.length = (ptsR r).length := by rw [← hrows, List.length_map]
      simp only [aSeq, aAsg, Tg.A, aVar, aC, aOp, aCons, aNil, aCall, aTup, aLst, aLstM, aFrz, aRet, aIfS, aNext, aDrop, aNever, aB, aAnd, aOr, aNot, aAndV, aOrV, aNotV, aIf, aCh, aNeg, aIsN, isN, oI0, oI, oEq, oIn, oIx, oAdd, oDIn, oDGet, oSub, oMod, oFdiv, oPow, oMul, oLt, oLe, oGt, oGe, pLe, pLt, see, items, cLen, cAll, cAny, cSorted, cSortedM, cSum, cMax, cMax2, cMin2, cList, cListM, cTuple, aIsi, aTupRg, aLstRg, oNone, oSome, aSl, aRev, aRevM, aBM, mAppend, mPopAt, mInsert, aDNew, aSetI, aSetD, aPar3, aAsgU, aLenSetS, aTabS, oIsB, mIndex, cMinT, aFor, aWhile, iSeq, seqOf, iRg1, iRg2, iZip, iEnum, aYes, aLc, aLcM, aPar, wipeD, setAll, tyD, eq_self, true_implies, false_implies, implies_true, and_true, true_and, ne_eq, not_false_eq_true, reduceCtorEq, Bool.not_true, Bool.not_false, ix30, ix32, at30, at31, at32, isiD_ii, isiD_bi, isiD_tt, isiD_ll, isiD_il, isiD_bl2, isiD_it, isiD_bt, isiD_st, isiD_sl, isiD_lt, isiD_si, isiD_li, isiD_bb, eqD_int, okD_i, List.set_cons_zero, List.set_cons_succ, List.getElem?_cons_zero, List.getElem?_cons_succ, List.length_cons, List.length_nil, List.map_cons, List.map_nil, Option.bind_some, put_same, Bool.xor_false, Bool.false_xor]
      refine ⟨by rw [List.length_map]; omega, ?_⟩
      refine lcA_map rows itemD (fun x => [maskD x.1]) (by simp) (fun x _ R hR => ?_) ?_
      · unfold itemD
        simp only [aSeq, aAsg, Tg.A, aVar, aC, aOp, aCons, aNil, aCall, aTup, aLst, aLstM, aFrz, aRet, aIfS, aNext, aDrop, aNever, aB, aAnd, aOr, aNot, aAndV, aOrV, aNotV, aIf, aCh, aNeg, aIsN, isN, oI0, oI, oEq, oIn, oIx, oAdd, oDIn, oDGet, oSub, oMod, oFdiv, oPow, oMul, oLt, oLe, oGt, oGe, pLe, pLt, see, items, cLen, cAll, cAny, cSorted, cSortedM, cSum, cMax, cMax2, cMin2, cList, cListM, cTuple, aIsi, aTupRg, aLstRg, oNone, oSome, aSl, aRev, aRevM, aBM, mAppend, mPopAt, mInsert, aDNew, aSetI, aSetD, aPar3, aAsgU, aLenSetS, aTabS, oIsB, mIndex, cMinT, aFor, aWhile, iSeq, seqOf, iRg1, iRg2, iZip, iEnum, aYes, aLc, aLcM, aPar, wipeD, setAll, tyD, eq_self, true_implies, false_implies, implies_true, and_true, true_and, ne_eq, not_false_eq_true, reduceCtorEq, Bool.not_true, Bool.not_false, ix30, ix32, at30, at31, at32, isiD_ii, isiD_bi, isiD_tt, isiD_ll, isiD_il, isiD_bl2, isiD_it, isiD_bt, isiD_st, isiD_sl, isiD_lt, isiD_si, isiD_li, isiD_bb, eqD_int, okD_i, List.set_cons_zero, List.set_cons_succ, List.getElem?_cons_zero, List.getElem?_cons_succ, List.length_cons, List.length_nil, List.map_cons, List.map_nil, Option.bind_some, put_same, Bool.xor_false, Bool.false_xor]
        exact hR
      · rw [flatMap_one]
        have e2 : (rows.map fun x => maskD x.1) = (ptsR r).map maskD := by rw [← hrows, List.map_map]; rfl
        rw [e2]
        exact Rt.drop hp h
/-! is_woven -/
abbrev N_is_woven : List Str := ["row"]
def A_is_woven : ASp := fun ds L K => ∃ r : List Int, ds = [.tup (r.map .int)] ∧ r.length ≤ 40 ∧ K (.bl (wovenB r)) L
def t_is_woven : ATS :=
  (aRet (aCall A_good_from (aCons (aVar 0) (aCons (aC (.int 0)) (aCons (aCall A_begun aNil) (aCons aDNew aNil))))))
theorem r_is_woven {ds : List D} {L : Lg} {Kk : AK} (h : A_is_woven ds L Kk) : t_is_woven { nx := fun _ L' => Rt Kk .non L', rt := Rt Kk } (startD N_is_woven ds) L := by
  obtain ⟨r, rfl, hr, h⟩ := h
  show t_is_woven _ [some (.tup (r.map .int))] L
  unfold t_is_woven
  simp only [aSeq, aAsg, Tg.A, aVar, aC, aOp, aCons, aNil, aCall, aTup, aLst, aLstM, aFrz, aRet, aIfS, aNext, aDrop, aNever, aB, aAnd, aOr, aNot, aAndV, aOrV, aNotV, aIf, aCh, aNeg, aIsN, isN, oI0, oI, oEq, oIn, oIx, oAdd, oDIn, oDGet, oSub, oMod, oFdiv, oPow, oMul, oLt, oLe, oGt, oGe, pLe, pLt, see, items, cLen, cAll, cAny, cSorted, cSortedM, cSum, cMax, cMax2, cMin2, cList, cListM, cTuple, aIsi, aTupRg, aLstRg, oNone, oSome, aSl, aRev, aRevM, aBM, mAppend, mPopAt, mInsert, aDNew, aSetI, aSetD, aPar3, aAsgU, aLenSetS, aTabS, oIsB, mIndex, cMinT, aFor, aWhile, iSeq, seqOf, iRg1, iRg2, iZip, iEnum, aYes, aLc, aLcM, aPar, wipeD, setAll, tyD, eq_self, true_implies, false_implies, implies_true, and_true, true_and, ne_eq, not_false_eq_true, reduceCtorEq, Bool.not_true, Bool.not_false, ix30, ix32, at30, at31, at32, isiD_ii, isiD_bi, isiD_tt, isiD_ll, isiD_il, isiD_bl2, isiD_it, isiD_bt, isiD_st, isiD_sl, isiD_lt, isiD_si, isiD_li, isiD_bb, eqD_int, okD_i, List.set_cons_zero, List.set_cons_succ, List.getElem?_cons_zero, List.getElem?_cons_succ, List.length_cons, List.length_nil, List.map_cons, List.map_nil, Option.bind_some, put_same, Bool.xor_false, Bool.false_xor, A_begun]
  intro p hp
  refine ⟨r, 0, -1, 1000000001, p, [], rfl, put_same, Memo.nil r, hr, by omega, by omega, by simp, by simp, fun kvs' _ => ?_⟩
  rw [put_put]
  exact Rt.drop hp h
/-! parting -/
abbrev N_parting : List Str := ["row", "found"]
def partD : List (List Bool) → D
  | [] => .non
  | m :: _ => maskD m
def A_parting : ASp := fun ds L K => ∃ r : List Int, ds = [.tup (r.map .int)] ∧ Row r ∧ K (partD (ptsR r)) L
theorem okD_mask (n : Nat) (m : List Bool) : okD (n + 1) (maskD m) = true := okDs_map _ (fun b => by
  have e : PyData.strOk (sideS b) = true := by cases b <;> decide +kernel
  cases n <;> exact e) m
def t_parting : ATS :=
  (aSeq (aDrop (aCall A_need_row (aCons (aVar 0) aNil)))
  (aSeq (aAsg (aCall A_all_partings (aCons (aVar 0) aNil)) (.one 1))
  (aRet (aIf (aB (aOp (oEq true) (aVar 1) (aLst aNil))) (aOp oIx (aVar 1) (aC (.int 0))) (aC .non)))))
theorem r_parting {ds : List D} {L : Lg} {Kk : AK} (h : A_parting ds L Kk) : t_parting { nx := fun _ L' => Rt Kk .non L', rt := Rt Kk } (startD N_parting ds) L := by
  obtain ⟨r, rfl, hr, h⟩ := h
  show t_parting _ [some (.tup (r.map .int)), none] L
  unfold t_parting
  simp only [aSeq, aAsg, Tg.A, aVar, aC, aOp, aCons, aNil, aCall, aTup, aLst, aLstM, aFrz, aRet, aIfS, aNext, aDrop, aNever, aB, aAnd, aOr, aNot, aAndV, aOrV, aNotV, aIf, aCh, aNeg, aIsN, isN, oI0, oI, oEq, oIn, oIx, oAdd, oDIn, oDGet, oSub, oMod, oFdiv, oPow, oMul, oLt, oLe, oGt, oGe, pLe, pLt, see, items, cLen, cAll, cAny, cSorted, cSortedM, cSum, cMax, cMax2, cMin2, cList, cListM, cTuple, aIsi, aTupRg, aLstRg, oNone, oSome, aSl, aRev, aRevM, aBM, mAppend, mPopAt, mInsert, aDNew, aSetI, aSetD, aPar3, aAsgU, aLenSetS, aTabS, oIsB, mIndex, cMinT, aFor, aWhile, iSeq, seqOf, iRg1, iRg2, iZip, iEnum, aYes, aLc, aLcM, aPar, wipeD, setAll, tyD, eq_self, true_implies, false_implies, implies_true, and_true, true_and, ne_eq, not_false_eq_true, reduceCtorEq, Bool.not_true, Bool.not_false, ix30, ix32, at30, at31, at32, isiD_ii, isiD_bi, isiD_tt, isiD_ll, isiD_il, isiD_bl2, isiD_it, isiD_bt, isiD_st, isiD_sl, isiD_lt, isiD_si, isiD_li, isiD_bb, eqD_int, okD_i, List.set_cons_zero, List.set_cons_succ, List.getElem?_cons_zero, List.getElem?_cons_succ, List.length_cons, List.length_nil, List.map_cons, List.map_nil, Option.bind_some, put_same, Bool.xor_false, Bool.false_xor, A_need_row]
  refine ⟨r, rfl, hr, ?_⟩
  simp only [aSeq, aAsg, Tg.A, aVar, aC, aOp, aCons, aNil, aCall, aTup, aLst, aLstM, aFrz, aRet, aIfS, aNext, aDrop, aNever, aB, aAnd, aOr, aNot, aAndV, aOrV, aNotV, aIf, aCh, aNeg, aIsN, isN, oI0, oI, oEq, oIn, oIx, oAdd, oDIn, oDGet, oSub, oMod, oFdiv, oPow, oMul, oLt, oLe, oGt, oGe, pLe, pLt, see, items, cLen, cAll, cAny, cSorted, cSortedM, cSum, cMax, cMax2, cMin2, cList, cListM, cTuple, aIsi, aTupRg, aLstRg, oNone, oSome, aSl, aRev, aRevM, aBM, mAppend, mPopAt, mInsert, aDNew, aSetI, aSetD, aPar3, aAsgU, aLenSetS, aTabS, oIsB, mIndex, cMinT, aFor, aWhile, iSeq, seqOf, iRg1, iRg2, iZip, iEnum, aYes, aLc, aLcM, aPar, wipeD, setAll, tyD, eq_self, true_implies, false_implies, implies_true, and_true, true_and, ne_eq, not_false_eq_true, reduceCtorEq, Bool.not_true, Bool.not_false, ix30, ix32, at30, at31, at32, isiD_ii, isiD_bi, isiD_tt, isiD_ll, isiD_il, isiD_bl2, isiD_it, isiD_bt, isiD_st, isiD_sl, isiD_lt, isiD_si, isiD_li, isiD_bb, eqD_int, okD_i, List.set_cons_zero, List.set_cons_succ, List.getElem?_cons_zero, List.getElem?_cons_succ, List.length_cons, List.length_nil, List.map_cons, List.map_nil, Option.bind_some, put_same, Bool.xor_false, Bool.false_xor, A_all_partings]
  refine ⟨r, rfl, hr, ?_⟩
  have o1 : okD 64 (.lst ((ptsR r).map maskD)) = true := okDs_map _ (fun m => okD_mask 62 m) _
  have o2 : okD 64 (.lst []) = true := rfl
  simp only [aSeq, aAsg, Tg.A, aVar, aC, aOp, aCons, aNil, aCall, aTup, aLst, aLstM, aFrz, aRet, aIfS, aNext, aDrop, aNever, aB, aAnd, aOr, aNot, aAndV, aOrV, aNotV, aIf, aCh, aNeg, aIsN, isN, oI0, oI, oEq, oIn, oIx, oAdd, oDIn, oDGet, oSub, oMod, oFdiv, oPow, oMul, oLt, oLe, oGt, oGe, pLe, pLt, see, items, cLen, cAll, cAny, cSorted, cSortedM, cSum, cMax, cMax2, cMin2, cList, cListM, cTuple, aIsi, aTupRg, aLstRg, oNone, oSome, aSl, aRev, aRevM, aBM, mAppend, mPopAt, mInsert, aDNew, aSetI, aSetD, aPar3, aAsgU, aLenSetS, aTabS, oIsB, mIndex, cMinT, aFor, aWhile, iSeq, seqOf, iRg1, iRg2, iZip, iEnum, aYes, aLc, aLcM, aPar, wipeD, setAll, tyD, eq_self, true_implies, false_implies, implies_true, and_true, true_and, ne_eq, not_false_eq_true, reduceCtorEq, Bool.not_true, Bool.not_false, ix30, ix32, at30, at31, at32, isiD_ii, isiD_bi, isiD_tt, isiD_ll, isiD_il, isiD_bl2, isiD_it, isiD_bt, isiD_st, isiD_sl, isiD_lt, isiD_si, isiD_li, isiD_bb, eqD_int, okD_i, List.set_cons_zero, List.set_cons_succ, List.getElem?_cons_zero, List.getElem?_cons_succ, List.length_cons, List.length_nil, List.map_cons, List.map_nil, Option.bind_some, put_same, Bool.xor_false, Bool.false_xor, o1, o2, eqD_nil, List.isEmpty_map]
  cases e : ptsR r with
  | nil =>
    rw [e] at h
    exact ⟨by decide, fun z => (by cases z), fun _ => Rt.same h⟩
  | cons m ms =>
    rw [e] at h
    have hat : atI ((m :: ms).map maskD) 0 = some (maskD m) := atI_nat (i := 0) rfl
    rw [hat]
    exact ⟨by decide, fun _ => Rt.same h, fun z => (by cases z)⟩
/-! how_many -/
abbrev N_how_many : List Str := ["row"]
def A_how_many : ASp := fun ds L K => ∃ r : List Int, ds = [.tup (r.map .int)] ∧ Row r ∧ K (.int ((ptsR r).length : Nat)) L
def t_how_many : ATS :=
  (aSeq (aDrop (aCall A_need_row (aCons (aVar 0) aNil)))
  (aRet (aCall cLen (aCons (aCall A_all_partings (aCons (aVar 0) aNil)) aNil))))
theorem r_how_many {ds : List D} {L : Lg} {Kk : AK} (h : A_how_many ds L Kk) : t_how_many { nx := fun _ L' => Rt Kk .non L', rt := Rt Kk } (startD N_how_many ds) L := by
  obtain ⟨r, rfl, hr, h⟩ := h
  show t_how_many _ [some (.tup (r.map .int))] L
  unfold t_how_many
  simp only [aSeq, aAsg, Tg.A, aVar, aC, aOp, aCons, aNil, aCall, aTup, aLst, aLstM, aFrz, aRet, aIfS, aNext, aDrop, aNever, aB, aAnd, aOr, aNot, aAndV, aOrV, aNotV, aIf, aCh, aNeg, aIsN, isN, oI0, oI, oEq, oIn, oIx, oAdd, oDIn, oDGet, oSub, oMod, oFdiv, oPow, oMul, oLt, oLe, oGt, oGe, pLe, pLt, see, items, cLen, cAll, cAny, cSorted, cSortedM, cSum, cMax, cMax2, cMin2, cList, cListM, cTuple, aIsi, aTupRg, aLstRg, oNone, oSome, aSl, aRev, aRevM, aBM, mAppend, mPopAt, mInsert, aDNew, aSetI, aSetD, aPar3, aAsgU, aLenSetS, aTabS, oIsB, mIndex, cMinT, aFor, aWhile, iSeq, seqOf, iRg1, iRg2, iZip, iEnum, aYes, aLc, aLcM, aPar, wipeD, setAll, tyD, eq_self, true_implies, false_implies, implies_true, and_true, true_and, ne_eq, not_false_eq_true, reduceCtorEq, Bool.not_true, Bool.not_false, ix30, ix32, at30, at31, at32, isiD_ii, isiD_bi, isiD_tt, isiD_ll, isiD_il, isiD_bl2, isiD_it, isiD_bt, isiD_st, isiD_sl, isiD_lt, isiD_si, isiD_li, isiD_bb, eqD_int, okD_i, List.set_cons_zero, List.set_cons_succ, List.getElem?_cons_zero, List.getElem?_cons_succ, List.length_cons, List.length_nil, List.map_cons, List.map_nil, Option.bind_some, put_same, Bool.xor_false, Bool.false_xor, A_need_row]
  refine ⟨r, rfl, hr, ?_⟩
  simp only [aSeq, aAsg, Tg.A, aVar, aC, aOp, aCons, aNil, aCall, aTup, aLst, aLstM, aFrz, aRet, aIfS, aNext, aDrop, aNever, aB, aAnd, aOr, aNot, aAndV, aOrV, aNotV, aIf, aCh, aNeg, aIsN, isN, oI0, oI, oEq, oIn, oIx, oAdd, oDIn, oDGet, oSub, oMod, oFdiv, oPow, oMul, oLt, oLe, oGt, oGe, pLe, pLt, see, items, cLen, cAll, cAny, cSorted, cSortedM, cSum, cMax, cMax2, cMin2, cList, cListM, cTuple, aIsi, aTupRg, aLstRg, oNone, oSome, aSl, aRev, aRevM, aBM, mAppend, mPopAt, mInsert, aDNew, aSetI, aSetD, aPar3, aAsgU, aLenSetS, aTabS, oIsB, mIndex, cMinT, aFor, aWhile, iSeq, seqOf, iRg1, iRg2, iZip, iEnum, aYes, aLc, aLcM, aPar, wipeD, setAll, tyD, eq_self, true_implies, false_implies, implies_true, and_true, true_and, ne_eq, not_false_eq_true, reduceCtorEq, Bool.not_true, Bool.not_false, ix30, ix32, at30, at31, at32, isiD_ii, isiD_bi, isiD_tt, isiD_ll, isiD_il, isiD_bl2, isiD_it, isiD_bt, isiD_st, isiD_sl, isiD_lt, isiD_si, isiD_li, isiD_bb, eqD_int, okD_i, List.set_cons_zero, List.set_cons_succ, List.getElem?_cons_zero, List.getElem?_cons_succ, List.length_cons, List.length_nil, List.map_cons, List.map_nil, Option.bind_some, put_same, Bool.xor_false, Bool.false_xor, A_all_partings]
  refine ⟨r, rfl, hr, ?_⟩
  simp only [aSeq, aAsg, Tg.A, aVar, aC, aOp, aCons, aNil, aCall, aTup, aLst, aLstM, aFrz, aRet, aIfS, aNext, aDrop, aNever, aB, aAnd, aOr, aNot, aAndV, aOrV, aNotV, aIf, aCh, aNeg, aIsN, isN, oI0, oI, oEq, oIn, oIx, oAdd, oDIn, oDGet, oSub, oMod, oFdiv, oPow, oMul, oLt, oLe, oGt, oGe, pLe, pLt, see, items, cLen, cAll, cAny, cSorted, cSortedM, cSum, cMax, cMax2, cMin2, cList, cListM, cTuple, aIsi, aTupRg, aLstRg, oNone, oSome, aSl, aRev, aRevM, aBM, mAppend, mPopAt, mInsert, aDNew, aSetI, aSetD, aPar3, aAsgU, aLenSetS, aTabS, oIsB, mIndex, cMinT, aFor, aWhile, iSeq, seqOf, iRg1, iRg2, iZip, iEnum, aYes, aLc, aLcM, aPar, wipeD, setAll, tyD, eq_self, true_implies, false_implies, implies_true, and_true, true_and, ne_eq, not_false_eq_true, reduceCtorEq, Bool.not_true, Bool.not_false, ix30, ix32, at30, at31, at32, isiD_ii, isiD_bi, isiD_tt, isiD_ll, isiD_il, isiD_bl2, isiD_it, isiD_bt, isiD_st, isiD_sl, isiD_lt, isiD_si, isiD_li, isiD_bb, eqD_int, okD_i, List.set_cons_zero, List.set_cons_succ, List.getElem?_cons_zero, List.getElem?_cons_succ, List.length_cons, List.length_nil, List.map_cons, List.map_nil, Option.bind_some, put_same, Bool.xor_false, Bool.false_xor, List.length_map]
  exact Rt.same h
/-! sides_of -/
abbrev N_sides_of : List Str := ["row", "found", "told", "at", "column", "sides_so"]
def A_sides_of : ASp := fun ds L K => ∃ r : List Int, ds = [.tup (r.map .int)] ∧ Row r ∧ K (sidesD (sidesOf r)) L
theorem side_col {P : List (List Bool)} (hP : P ≠ []) (i : Nat) : (if decide ((((distS (P.map fun m => sideS (atB m i))).length : Nat) : Int) = 1) = true then (P.map fun m => sideS (atB m i)).headD "either" else "either") = sideAt P i := by
  obtain ⟨m, ms, rfl⟩ : ∃ m ms, P = m :: ms := by
    cases P with
    | nil => exact (hP rfl).elim
    | cons m ms => exact ⟨m, ms, rfl⟩
  have hinj : ∀ a b : Bool, sideS a = sideS b → a = b := by decide +kernel
  have hone := distS_one (xs := (m :: ms).map fun m => sideS (atB m i))
  by_cases h : (distS ((m :: ms).map fun m => sideS (atB m i))).length = 1
  · rw [if_pos (by rw [h]; decide)]
    obtain ⟨x, xs, e, hx⟩ := hone.mp h
    rw [List.map_cons] at e
    injection e with e1 e2
    subst e1
    have hall : ∀ m' ∈ ms, atB m' i = atB m i := fun m' hm => by
      have := hx (sideS (atB m' i)) (by rw [← e2]; exact List.mem_map.mpr ⟨m', hm, rfl⟩)
      exact hinj _ _ this
    show sideS (atB m i) = _
    unfold sideAt
    rw [List.all_cons, List.all_cons]
    cases hb : atB m i with
    | true =>
      have : (ms.all fun m => atB m i) = true := List.all_eq_true.mpr fun m' hm => by rw [hall m' hm, hb]
      rw [this]; rfl
    | false =>
      have : (ms.all fun m => !atB m i) = true := List.all_eq_true.mpr fun m' hm => by rw [hall m' hm, hb]; rfl
      rw [this]; rfl
  · rw [if_neg (by
      rw [decide_eq_true_iff]
      intro z
      exact h (by omega))]
    unfold sideAt
    rw [if_neg, if_neg]
    · intro z
      rw [List.all_eq_true] at z
      refine h (hone.mpr ⟨_, _, rfl, fun y hy => ?_⟩)
      obtain ⟨m', hm, rfl⟩ := List.mem_map.mp hy
      have a := z m' (by simp [hm])
      have b := z m (by simp)
      show sideS (atB m' i) = sideS (atB m i)
      rw [show atB m' i = atB m i by simp at a b; rw [a, b]]
    · intro z
      rw [List.all_eq_true] at z
      refine h (hone.mpr ⟨_, _, rfl, fun y hy => ?_⟩)
      obtain ⟨m', hm, rfl⟩ := List.mem_map.mp hy
      show sideS (atB m' i) = sideS (atB m i)
      rw [z m' (by simp [hm]), z m (by simp)]
def t_sides_of : ATS :=
  (aSeq (aAsg (aCall A_all_partings (aCons (aVar 0) aNil)) (.one 1))
  (aSeq (aIfS (aB (aOp (oEq false) (aVar 1) (aLst aNil))) (aRet (aC .non)) aNext)
  (aSeq (aAsg (aLstM aNil) (.one 2))
  (aSeq (aFor (iRg1 (aCall cLen (aCons (aVar 0) aNil))) (.one 3) (aSeq (aAsg (aLc (iSeq (aVar 1)) (.one 5) aYes (aOp oIx (aVar 5) (aVar 3)) [5]) (.one 4))
  (aDrop (aBM mAppend (aVar 2) (aCons (aIf (aB (aOp (oEq false) (aLenSetS (aVar 4)) (aC (.int 1)))) (aOp oIx (aVar 4) (aC (.int 0))) (aC (.str "either"))) aNil)))))
  (aRet (aCall cTuple (aCons (aVar 2) aNil)))))))
theorem r_sides_of {ds : List D} {L : Lg} {Kk : AK} (h : A_sides_of ds L Kk) : t_sides_of { nx := fun _ L' => Rt Kk .non L', rt := Rt Kk } (startD N_sides_of ds) L := by
  obtain ⟨r, rfl, hr, h⟩ := h
  show t_sides_of _ [some (.tup (r.map .int)), none, none, none, none, none] L
  unfold t_sides_of
  have hfew := hr.few
  have hpts : (ptsR r).length ≤ 1681 := Nat.le_trans (pts_few (r := r) hr.rng) (Nat.mul_le_mul (show r.length + 1 ≤ 41 by omega) (show r.length + 1 ≤ 41 by omega))
  simp only [aSeq, aAsg, Tg.A, aVar, aC, aOp, aCons, aNil, aCall, aTup, aLst, aLstM, aFrz, aRet, aIfS, aNext, aDrop, aNever, aB, aAnd, aOr, aNot, aAndV, aOrV, aNotV, aIf, aCh, aNeg, aIsN, isN, oI0, oI, oEq, oIn, oIx, oAdd, oDIn, oDGet, oSub, oMod, oFdiv, oPow, oMul, oLt, oLe, oGt, oGe, pLe, pLt, see, items, cLen, cAll, cAny, cSorted, cSortedM, cSum, cMax, cMax2, cMin2, cList, cListM, cTuple, aIsi, aTupRg, aLstRg, oNone, oSome, aSl, aRev, aRevM, aBM, mAppend, mPopAt, mInsert, aDNew, aSetI, aSetD, aPar3, aAsgU, aLenSetS, aTabS, oIsB, mIndex, cMinT, aFor, aWhile, iSeq, seqOf, iRg1, iRg2, iZip, iEnum, aYes, aLc, aLcM, aPar, wipeD, setAll, tyD, eq_self, true_implies, false_implies, implies_true, and_true, true_and, ne_eq, not_false_eq_true, reduceCtorEq, Bool.not_true, Bool.not_false, ix30, ix32, at30, at31, at32, isiD_ii, isiD_bi, isiD_tt, isiD_ll, isiD_il, isiD_bl2, isiD_it, isiD_bt, isiD_st, isiD_sl, isiD_lt, isiD_si, isiD_li, isiD_bb, eqD_int, okD_i, List.set_cons_zero, List.set_cons_succ, List.getElem?_cons_zero, List.getElem?_cons_succ, List.length_cons, List.length_nil, List.map_cons, List.map_nil, Option.bind_some, put_same, Bool.xor_false, Bool.false_xor, A_all_partings]
  refine ⟨r, rfl, hr, ?_⟩
  have o1 : okD 64 (.lst ((ptsR r).map maskD)) = true := okDs_map _ (fun m => okD_mask 62 m) _
  have o2 : okD 64 (.lst []) = true := rfl
  simp only [aSeq, aAsg, Tg.A, aVar, aC, aOp, aCons, aNil, aCall, aTup, aLst, aLstM, aFrz, aRet, aIfS, aNext, aDrop, aNever, aB, aAnd, aOr, aNot, aAndV, aOrV, aNotV, aIf, aCh, aNeg, aIsN, isN, oI0, oI, oEq, oIn, oIx, oAdd, oDIn, oDGet, oSub, oMod, oFdiv, oPow, oMul, oLt, oLe, oGt, oGe, pLe, pLt, see, items, cLen, cAll, cAny, cSorted, cSortedM, cSum, cMax, cMax2, cMin2, cList, cListM, cTuple, aIsi, aTupRg, aLstRg, oNone, oSome, aSl, aRev, aRevM, aBM, mAppend, mPopAt, mInsert, aDNew, aSetI, aSetD, aPar3, aAsgU, aLenSetS, aTabS, oIsB, mIndex, cMinT, aFor, aWhile, iSeq, seqOf, iRg1, iRg2, iZip, iEnum, aYes, aLc, aLcM, aPar, wipeD, setAll, tyD, eq_self, true_implies, false_implies, implies_true, and_true, true_and, ne_eq, not_false_eq_true, reduceCtorEq, Bool.not_true, Bool.not_false, ix30, ix32, at30, at31, at32, isiD_ii, isiD_bi, isiD_tt, isiD_ll, isiD_il, isiD_bl2, isiD_it, isiD_bt, isiD_st, isiD_sl, isiD_lt, isiD_si, isiD_li, isiD_bb, eqD_int, okD_i, List.set_cons_zero, List.set_cons_succ, List.getElem?_cons_zero, List.getElem?_cons_succ, List.length_cons, List.length_nil, List.map_cons, List.map_nil, Option.bind_some, put_same, Bool.xor_false, Bool.false_xor, o1, o2, eqD_nil, List.isEmpty_map, List.length_map]
  refine ⟨by decide, fun e => ?_, fun e => ⟨by decide, fun q hq => ⟨by omega, by omega, ?_⟩⟩⟩
  · have e2 : ptsR r = [] := by simpa using e
    unfold sidesOf at h
    rw [if_pos e2] at h
    exact Rt.same h
  · have e2 : ptsR r ≠ [] := by
      intro z
      rw [z] at e
      cases e
    unfold sidesOf at h
    rw [if_neg e2] at h
    rw [Int.toNat_natCast]
    refine forA_ind (fun i Δ L' => ∃ (x3 x4 x5 : Option D), Δ = [some (.tup (r.map .int)), some (.lst ((ptsR r).map maskD)), some (.ref q), x3, x4, x5] ∧ L' = put L q (.lst (((List.range r.length).take i).map fun i => D.str (sideAt (ptsR r) i))))
      (fun _ _ _ _ => trivial) (fun i d Δ L' N e I hN => ?_) (fun Δ L' I => ?_) ⟨_, _, _, rfl, by simp⟩
    · obtain ⟨x3, x4, x5, rfl, rfl⟩ := I
      unfold rgD at e
      rw [List.getElem?_map] at e
      obtain ⟨i2, hi2, rfl⟩ := Option.map_eq_some_iff.mp e
      obtain ⟨hi, hi3⟩ := List.getElem?_eq_some_iff.mp hi2
      rw [List.length_range] at hi
      simp at hi3
      subst hi3
      simp only [aSeq, aAsg, Tg.A, aVar, aC, aOp, aCons, aNil, aCall, aTup, aLst, aLstM, aFrz, aRet, aIfS, aNext, aDrop, aNever, aB, aAnd, aOr, aNot, aAndV, aOrV, aNotV, aIf, aCh, aNeg, aIsN, isN, oI0, oI, oEq, oIn, oIx, oAdd, oDIn, oDGet, oSub, oMod, oFdiv, oPow, oMul, oLt, oLe, oGt, oGe, pLe, pLt, see, items, cLen, cAll, cAny, cSorted, cSortedM, cSum, cMax, cMax2, cMin2, cList, cListM, cTuple, aIsi, aTupRg, aLstRg, oNone, oSome, aSl, aRev, aRevM, aBM, mAppend, mPopAt, mInsert, aDNew, aSetI, aSetD, aPar3, aAsgU, aLenSetS, aTabS, oIsB, mIndex, cMinT, aFor, aWhile, iSeq, seqOf, iRg1, iRg2, iZip, iEnum, aYes, aLc, aLcM, aPar, wipeD, setAll, tyD, eq_self, true_implies, false_implies, implies_true, and_true, true_and, ne_eq, not_false_eq_true, reduceCtorEq, Bool.not_true, Bool.not_false, ix30, ix32, at30, at31, at32, isiD_ii, isiD_bi, isiD_tt, isiD_ll, isiD_il, isiD_bl2, isiD_it, isiD_bt, isiD_st, isiD_sl, isiD_lt, isiD_si, isiD_li, isiD_bb, eqD_int, okD_i, List.set_cons_zero, List.set_cons_succ, List.getElem?_cons_zero, List.getElem?_cons_succ, List.length_cons, List.length_nil, List.map_cons, List.map_nil, Option.bind_some, put_same, Bool.xor_false, Bool.false_xor, Int.zero_add]
      refine ⟨by rw [List.length_map]; omega, ?_⟩
      refine lcA_map (ptsR r) maskD (fun m => [.str (sideS (atB m i))]) (by simp) (fun m hm R hR => ?_) ?_
      · have hl := ((mem_ptsR hr.rng).mp hm).1
        have hat : atI (m.map fun b => D.str (sideS b)) (i : Int) = some (.str (sideS (atB m i))) := by
          refine atI_nat ?_
          rw [List.getElem?_map, List.getElem?_eq_getElem (by omega)]
          unfold atB
          rw [List.getElem?_eq_getElem (by omega)]
          rfl
        unfold maskD
        simp only [aSeq, aAsg, Tg.A, aVar, aC, aOp, aCons, aNil, aCall, aTup, aLst, aLstM, aFrz, aRet, aIfS, aNext, aDrop, aNever, aB, aAnd, aOr, aNot, aAndV, aOrV, aNotV, aIf, aCh, aNeg, aIsN, isN, oI0, oI, oEq, oIn, oIx, oAdd, oDIn, oDGet, oSub, oMod, oFdiv, oPow, oMul, oLt, oLe, oGt, oGe, pLe, pLt, see, items, cLen, cAll, cAny, cSorted, cSortedM, cSum, cMax, cMax2, cMin2, cList, cListM, cTuple, aIsi, aTupRg, aLstRg, oNone, oSome, aSl, aRev, aRevM, aBM, mAppend, mPopAt, mInsert, aDNew, aSetI, aSetD, aPar3, aAsgU, aLenSetS, aTabS, oIsB, mIndex, cMinT, aFor, aWhile, iSeq, seqOf, iRg1, iRg2, iZip, iEnum, aYes, aLc, aLcM, aPar, wipeD, setAll, tyD, eq_self, true_implies, false_implies, implies_true, and_true, true_and, ne_eq, not_false_eq_true, reduceCtorEq, Bool.not_true, Bool.not_false, ix30, ix32, at30, at31, at32, isiD_ii, isiD_bi, isiD_tt, isiD_ll, isiD_il, isiD_bl2, isiD_it, isiD_bt, isiD_st, isiD_sl, isiD_lt, isiD_si, isiD_li, isiD_bb, eqD_int, okD_i, List.set_cons_zero, List.set_cons_succ, List.getElem?_cons_zero, List.getElem?_cons_succ, List.length_cons, List.length_nil, List.map_cons, List.map_nil, Option.bind_some, put_same, Bool.xor_false, Bool.false_xor, hat]
        exact hR
      · rw [flatMap_one]
        have hs := asStrs_map (fun m => sideS (atB m i)) (ptsR r)
        have hc := side_col e2 i
        simp only [aSeq, aAsg, Tg.A, aVar, aC, aOp, aCons, aNil, aCall, aTup, aLst, aLstM, aFrz, aRet, aIfS, aNext, aDrop, aNever, aB, aAnd, aOr, aNot, aAndV, aOrV, aNotV, aIf, aCh, aNeg, aIsN, isN, oI0, oI, oEq, oIn, oIx, oAdd, oDIn, oDGet, oSub, oMod, oFdiv, oPow, oMul, oLt, oLe, oGt, oGe, pLe, pLt, see, items, cLen, cAll, cAny, cSorted, cSortedM, cSum, cMax, cMax2, cMin2, cList, cListM, cTuple, aIsi, aTupRg, aLstRg, oNone, oSome, aSl, aRev, aRevM, aBM, mAppend, mPopAt, mInsert, aDNew, aSetI, aSetD, aPar3, aAsgU, aLenSetS, aTabS, oIsB, mIndex, cMinT, aFor, aWhile, iSeq, seqOf, iRg1, iRg2, iZip, iEnum, aYes, aLc, aLcM, aPar, wipeD, setAll, tyD, eq_self, true_implies, false_implies, implies_true, and_true, true_and, ne_eq, not_false_eq_true, reduceCtorEq, Bool.not_true, Bool.not_false, ix30, ix32, at30, at31, at32, isiD_ii, isiD_bi, isiD_tt, isiD_ll, isiD_il, isiD_bl2, isiD_it, isiD_bt, isiD_st, isiD_sl, isiD_lt, isiD_si, isiD_li, isiD_bb, eqD_int, okD_i, List.set_cons_zero, List.set_cons_succ, List.getElem?_cons_zero, List.getElem?_cons_succ, List.length_cons, List.length_nil, List.map_cons, List.map_nil, Option.bind_some, put_same, Bool.xor_false, Bool.false_xor, hs, List.length_map]
        refine ⟨⟨_, rfl⟩, by omega, fun z => ?_, fun z => ?_⟩
        · rw [if_pos z] at hc
          obtain ⟨m, ms, em⟩ : ∃ m ms, ptsR r = m :: ms := by
            cases em : ptsR r with
            | nil => exact (e2 em).elim
            | cons m ms => exact ⟨m, ms, rfl⟩
          have hat : atI ((ptsR r).map fun m => D.str (sideS (atB m i))) 0 = some (.str (sideAt (ptsR r) i)) := by
            rw [← hc, em]
            exact atI_nat (i := 0) rfl
          simp only [aSeq, aAsg, Tg.A, aVar, aC, aOp, aCons, aNil, aCall, aTup, aLst, aLstM, aFrz, aRet, aIfS, aNext, aDrop, aNever, aB, aAnd, aOr, aNot, aAndV, aOrV, aNotV, aIf, aCh, aNeg, aIsN, isN, oI0, oI, oEq, oIn, oIx, oAdd, oDIn, oDGet, oSub, oMod, oFdiv, oPow, oMul, oLt, oLe, oGt, oGe, pLe, pLt, see, items, cLen, cAll, cAny, cSorted, cSortedM, cSum, cMax, cMax2, cMin2, cList, cListM, cTuple, aIsi, aTupRg, aLstRg, oNone, oSome, aSl, aRev, aRevM, aBM, mAppend, mPopAt, mInsert, aDNew, aSetI, aSetD, aPar3, aAsgU, aLenSetS, aTabS, oIsB, mIndex, cMinT, aFor, aWhile, iSeq, seqOf, iRg1, iRg2, iZip, iEnum, aYes, aLc, aLcM, aPar, wipeD, setAll, tyD, eq_self, true_implies, false_implies, implies_true, and_true, true_and, ne_eq, not_false_eq_true, reduceCtorEq, Bool.not_true, Bool.not_false, ix30, ix32, at30, at31, at32, isiD_ii, isiD_bi, isiD_tt, isiD_ll, isiD_il, isiD_bl2, isiD_it, isiD_bt, isiD_st, isiD_sl, isiD_lt, isiD_si, isiD_li, isiD_bb, eqD_int, okD_i, List.set_cons_zero, List.set_cons_succ, List.getElem?_cons_zero, List.getElem?_cons_succ, List.length_cons, List.length_nil, List.map_cons, List.map_nil, Option.bind_some, put_same, Bool.xor_false, Bool.false_xor, hat]
          refine ⟨by simp; omega, hN _ _ ⟨_, _, _, rfl, ?_⟩⟩
          rw [put_put, List.take_add_one, hi2]
          simp
        · rw [if_neg (by rw [z]; simp)] at hc
          refine ⟨by simp; omega, hN _ _ ⟨_, _, _, rfl, ?_⟩⟩
          rw [put_put, List.take_add_one, hi2]
          simp [← hc]
    · obtain ⟨x3, x4, x5, rfl, rfl⟩ := I
      rw [rgD_len, List.take_of_length_le (by simp)]
      simp only [aSeq, aAsg, Tg.A, aVar, aC, aOp, aCons, aNil, aCall, aTup, aLst, aLstM, aFrz, aRet, aIfS, aNext, aDrop, aNever, aB, aAnd, aOr, aNot, aAndV, aOrV, aNotV, aIf, aCh, aNeg, aIsN, isN, oI0, oI, oEq, oIn, oIx, oAdd, oDIn, oDGet, oSub, oMod, oFdiv, oPow, oMul, oLt, oLe, oGt, oGe, pLe, pLt, see, items, cLen, cAll, cAny, cSorted, cSortedM, cSum, cMax, cMax2, cMin2, cList, cListM, cTuple, aIsi, aTupRg, aLstRg, oNone, oSome, aSl, aRev, aRevM, aBM, mAppend, mPopAt, mInsert, aDNew, aSetI, aSetD, aPar3, aAsgU, aLenSetS, aTabS, oIsB, mIndex, cMinT, aFor, aWhile, iSeq, seqOf, iRg1, iRg2, iZip, iEnum, aYes, aLc, aLcM, aPar, wipeD, setAll, tyD, eq_self, true_implies, false_implies, implies_true, and_true, true_and, ne_eq, not_false_eq_true, reduceCtorEq, Bool.not_true, Bool.not_false, ix30, ix32, at30, at31, at32, isiD_ii, isiD_bi, isiD_tt, isiD_ll, isiD_il, isiD_bl2, isiD_it, isiD_bt, isiD_st, isiD_sl, isiD_lt, isiD_si, isiD_li, isiD_bb, eqD_int, okD_i, List.set_cons_zero, List.set_cons_succ, List.getElem?_cons_zero, List.getElem?_cons_succ, List.length_cons, List.length_nil, List.map_cons, List.map_nil, Option.bind_some, put_same, Bool.xor_false, Bool.false_xor]
      refine Rt.drop hq ?_
      have h2 : Kk (.tup (((List.range r.length).map (sideAt (ptsR r))).map D.str)) L := h
      rw [List.map_map] at h2
      exact h2
/-! sides -/
abbrev N_sides : List Str := ["row"]
def A_sides : ASp := A_sides_of
def t_sides : ATS :=
  (aSeq (aDrop (aCall A_need_row (aCons (aVar 0) aNil)))
  (aRet (aCall A_sides_of (aCons (aVar 0) aNil))))
theorem r_sides {ds : List D} {L : Lg} {Kk : AK} (h : A_sides ds L Kk) : t_sides { nx := fun _ L' => Rt Kk .non L', rt := Rt Kk } (startD N_sides ds) L := by
  obtain ⟨r, rfl, hr, h⟩ := h
  show t_sides _ [some (.tup (r.map .int))] L
  unfold t_sides
  simp only [aSeq, aAsg, Tg.A, aVar, aC, aOp, aCons, aNil, aCall, aTup, aLst, aLstM, aFrz, aRet, aIfS, aNext, aDrop, aNever, aB, aAnd, aOr, aNot, aAndV, aOrV, aNotV, aIf, aCh, aNeg, aIsN, isN, oI0, oI, oEq, oIn, oIx, oAdd, oDIn, oDGet, oSub, oMod, oFdiv, oPow, oMul, oLt, oLe, oGt, oGe, pLe, pLt, see, items, cLen, cAll, cAny, cSorted, cSortedM, cSum, cMax, cMax2, cMin2, cList, cListM, cTuple, aIsi, aTupRg, aLstRg, oNone, oSome, aSl, aRev, aRevM, aBM, mAppend, mPopAt, mInsert, aDNew, aSetI, aSetD, aPar3, aAsgU, aLenSetS, aTabS, oIsB, mIndex, cMinT, aFor, aWhile, iSeq, seqOf, iRg1, iRg2, iZip, iEnum, aYes, aLc, aLcM, aPar, wipeD, setAll, tyD, eq_self, true_implies, false_implies, implies_true, and_true, true_and, ne_eq, not_false_eq_true, reduceCtorEq, Bool.not_true, Bool.not_false, ix30, ix32, at30, at31, at32, isiD_ii, isiD_bi, isiD_tt, isiD_ll, isiD_il, isiD_bl2, isiD_it, isiD_bt, isiD_st, isiD_sl, isiD_lt, isiD_si, isiD_li, isiD_bb, eqD_int, okD_i, List.set_cons_zero, List.set_cons_succ, List.getElem?_cons_zero, List.getElem?_cons_succ, List.length_cons, List.length_nil, List.map_cons, List.map_nil, Option.bind_some, put_same, Bool.xor_false, Bool.false_xor, A_need_row]
  refine ⟨r, rfl, hr, ?_⟩
  exact ⟨r, rfl, hr, Rt.same h⟩
/-! barring -/
abbrev N_barring : List Str := ["cards", "first", "second", "third", "fourth"]
def A_barring : ASp := fun ds L K => ∃ (d : D) (a b c e : Int), ds = [d] ∧ items L d = some [.int a, .int b, .int c, .int e] ∧ K (.bl (decide (Bar a b c e))) L
def t_barring : ATS :=
  (aSeq (aAsgU (aVar 0) [1, 2, 3, 4])
  (aRet (aOrV (aCh3 2 1 4 3) (aCh3 3 4 1 2))))
theorem r_barring {ds : List D} {L : Lg} {Kk : AK} (h : A_barring ds L Kk) : t_barring { nx := fun _ L' => Rt Kk .non L', rt := Rt Kk } (startD N_barring ds) L := by
  obtain ⟨d, a, b, c, e, rfl, hd, h⟩ := h
  show t_barring _ [some d, none, none, none, none] L
  unfold t_barring
  simp only [aSeq, aAsg, Tg.A, aVar, aC, aOp, aCons, aNil, aCall, aTup, aLst, aLstM, aFrz, aRet, aIfS, aNext, aDrop, aNever, aB, aAnd, aOr, aNot, aAndV, aOrV, aNotV, aIf, aCh, aNeg, aIsN, isN, oI0, oI, oIn, oIx, oAdd, oDIn, oDGet, oSub, oMod, oFdiv, oPow, oMul, oLt, oLe, oGt, oGe, pLe, pLt, cLen, cAll, cAny, cSorted, cSortedM, cSum, cMax, cMax2, cMin2, cList, cListM, cTuple, aIsi, aTupRg, aLstRg, oNone, oSome, aSl, aRev, aRevM, aBM, mAppend, mPopAt, mInsert, aDNew, aSetI, aSetD, aPar3, aAsgU, aLenSetS, aTabS, oIsB, mIndex, cMinT, aFor, aWhile, iSeq, iRg1, iRg2, iZip, iEnum, aYes, aLc, aLcM, aPar, wipeD, setAll, eq_self, true_implies, false_implies, implies_true, and_true, true_and, ne_eq, not_false_eq_true, reduceCtorEq, Bool.not_true, Bool.not_false, ix30, ix32, at30, at31, at32, isiD_ii, isiD_bi, isiD_tt, isiD_ll, isiD_il, isiD_bl2, isiD_it, isiD_bt, isiD_st, isiD_sl, isiD_lt, isiD_si, isiD_li, isiD_bb, eqD_int, okD_i, List.set_cons_zero, List.set_cons_succ, List.getElem?_cons_zero, List.getElem?_cons_succ, List.length_cons, List.length_nil, List.map_cons, List.map_nil, Option.bind_some, put_same, Bool.xor_false, Bool.false_xor, hd]
  have e1 : decide (Bar a b c e) = ((decide (b < a) && (decide (a < e) && decide (e < c))) || (decide (c < e) && (decide (e < a) && decide (a < b)))) := by
    rw [Bool.eq_iff_iff]
    simp only [Bool.or_eq_true, Bool.and_eq_true, decide_eq_true_iff]
    exact Iff.rfl
  rw [e1] at h
  refine ⟨b, a, e, c, rfl, rfl, rfl, rfl, fun z => ?_, fun z => ⟨c, e, a, b, rfl, rfl, rfl, rfl, ?_⟩⟩
  · rw [z] at h
    exact Rt.same h
  · rw [z] at h
    exact Rt.same h
/-! four_with -/
abbrev N_four_with : List Str := ["row", "last", "one", "two", "three"]
def fourD : Option (List Int) → D
  | none => .non
  | some q => .tup (q.map .int)
def A_four_with : ASp := fun ds L K => ∃ (r : List Int) (l : Nat), ds = [.tup (r.map .int), .int l] ∧ l < r.length ∧ r.length ≤ 40 ∧ K (fourD (fourWith r l)) L
/-- a loop that looks for something -/
theorem forA_find {live : Lg → Prop} {g : Tg} {tb : ATS} {A : AEnds} {L : Lg} {α : Type} {β : Type} (S : Sg → Prop) (fd : α → D) (f : α → Option β) (res : β → D) (hlive : live L) : ∀ (xs : List α)
    (_ : ∀ a, a ∈ xs → ∀ Δ (N : Sg → Lg → Prop), S Δ → (f a = none → ∀ Δ', S Δ' → N Δ' L) → (∀ x, f a = some x → A.rt (res x) L) → g.A (fd a) Δ L fun Δ' L' => tb { A with nx := N, ct := N, bk := A.nx } Δ' L')
    (_ : xs.findSome? f = none → ∀ Δ, S Δ → A.nx Δ L) (_ : ∀ x, xs.findSome? f = some x → A.rt (res x) L) {Δ : Sg} (_ : S Δ), forA live g tb A (xs.map fd) Δ L
  | [], _, hn, _, Δ, hS => ⟨hlive, hn rfl Δ hS⟩
  | a :: xs, step, hn, hs, Δ, hS => ⟨hlive, step a (by simp) Δ _ hS (fun e Δ' hS' => forA_find S fd f res hlive xs (fun b hb => step b (by simp [hb])) (fun e2 => hn (by rw [List.findSome?_cons, e]; exact e2)) (fun x e2 => hs x (by rw [List.findSome?_cons, e]; exact e2)) hS') (fun x e => hs x (by rw [List.findSome?_cons, e]))⟩
theorem at_map {r : List Int} {i : Nat} (h : i < r.length) : atI (r.map D.int) (i : Int) = some (.int (at0 r i)) := by
  refine atI_nat ?_
  rw [List.getElem?_map, at0_get h]
  rfl
def t_four_with : ATS :=
  (aSeq (aFor (iRg1 (aVar 1)) (.one 2) (aFor (iRg2 (aOp oAdd (aVar 2) (aC (.int 1))) (aVar 1)) (.one 3) (aFor (iRg2 (aOp oAdd (aVar 3) (aC (.int 1))) (aVar 1)) (.one 4) (aIfS (aB (aCall A_barring (aCons (aTup (aCons (aOp oIx (aVar 0) (aVar 2)) (aCons (aOp oIx (aVar 0) (aVar 3)) (aCons (aOp oIx (aVar 0) (aVar 4)) (aCons (aOp oIx (aVar 0) (aVar 1)) aNil))))) aNil))) (aRet (aTup (aCons (aVar 2) (aCons (aVar 3) (aCons (aVar 4) (aCons (aVar 1) aNil)))))) aNext))))
  (aRet (aC .non)))
theorem r_four_with {ds : List D} {L : Lg} {Kk : AK} (h : A_four_with ds L Kk) : t_four_with { nx := fun _ L' => Rt Kk .non L', rt := Rt Kk } (startD N_four_with ds) L := by
  obtain ⟨r, l, rfl, hl, hr, h⟩ := h
  show t_four_with _ [some (.tup (r.map .int)), some (.int l), none, none, none] L
  unfold t_four_with
  simp only [aSeq, aAsg, Tg.A, aVar, aC, aOp, aCons, aNil, aCall, aTup, aLst, aLstM, aFrz, aRet, aIfS, aNext, aDrop, aNever, aB, aAnd, aOr, aNot, aAndV, aOrV, aNotV, aIf, aCh, aNeg, aIsN, isN, oI0, oI, oEq, oIn, oIx, oAdd, oDIn, oDGet, oSub, oMod, oFdiv, oPow, oMul, oLt, oLe, oGt, oGe, pLe, pLt, see, items, cLen, cAll, cAny, cSorted, cSortedM, cSum, cMax, cMax2, cMin2, cList, cListM, cTuple, aIsi, aTupRg, aLstRg, oNone, oSome, aSl, aRev, aRevM, aBM, mAppend, mPopAt, mInsert, aDNew, aSetI, aSetD, aPar3, aAsgU, aLenSetS, aTabS, oIsB, mIndex, cMinT, aFor, aWhile, iSeq, seqOf, iRg1, iRg2, iZip, iEnum, aYes, aLc, aLcM, aPar, wipeD, setAll, tyD, eq_self, true_implies, false_implies, implies_true, and_true, true_and, ne_eq, not_false_eq_true, reduceCtorEq, Bool.not_true, Bool.not_false, ix30, ix32, at30, at31, at32, isiD_ii, isiD_bi, isiD_tt, isiD_ll, isiD_il, isiD_bl2, isiD_it, isiD_bt, isiD_st, isiD_sl, isiD_lt, isiD_si, isiD_li, isiD_bb, eqD_int, okD_i, List.set_cons_zero, List.set_cons_succ, List.getElem?_cons_zero, List.getElem?_cons_succ, List.length_cons, List.length_nil, List.map_cons, List.map_nil, Option.bind_some, put_same, Bool.xor_false, Bool.false_xor]
  refine ⟨by omega, by omega, ?_⟩
  rw [Int.toNat_natCast]
  unfold rgD
  have hh : ∀ x, fourWith r l = some x → Kk (.tup (x.map D.int)) L := fun x e => by rw [e] at h; exact h
  refine forA_find (fun Δ => ∃ x2 x3 x4 : Option D, Δ = [some (.tup (r.map .int)), some (.int l), x2, x3, x4]) (fun i : Nat => D.int ((0 : Int) + i)) (fun i => fw2 r l i) (fun q => .tup (q.map D.int)) (by trivial) (List.range l) (fun i hi Δ N hS hN hR => ?_) (fun e Δ hS => ?_) (fun x e => Rt.same (hh x e)) ⟨_, _, _, rfl⟩
  · obtain ⟨x2, x3, x4, rfl⟩ := hS
    rw [List.mem_range] at hi
    simp only [aSeq, aAsg, Tg.A, aVar, aC, aOp, aCons, aNil, aCall, aTup, aLst, aLstM, aFrz, aRet, aIfS, aNext, aDrop, aNever, aB, aAnd, aOr, aNot, aAndV, aOrV, aNotV, aIf, aCh, aNeg, aIsN, isN, oI0, oI, oEq, oIn, oIx, oAdd, oDIn, oDGet, oSub, oMod, oFdiv, oPow, oMul, oLt, oLe, oGt, oGe, pLe, pLt, see, items, cLen, cAll, cAny, cSorted, cSortedM, cSum, cMax, cMax2, cMin2, cList, cListM, cTuple, aIsi, aTupRg, aLstRg, oNone, oSome, aSl, aRev, aRevM, aBM, mAppend, mPopAt, mInsert, aDNew, aSetI, aSetD, aPar3, aAsgU, aLenSetS, aTabS, oIsB, mIndex, cMinT, aFor, aWhile, iSeq, seqOf, iRg1, iRg2, iZip, iEnum, aYes, aLc, aLcM, aPar, wipeD, setAll, tyD, eq_self, true_implies, false_implies, implies_true, and_true, true_and, ne_eq, not_false_eq_true, reduceCtorEq, Bool.not_true, Bool.not_false, ix30, ix32, at30, at31, at32, isiD_ii, isiD_bi, isiD_tt, isiD_ll, isiD_il, isiD_bl2, isiD_it, isiD_bt, isiD_st, isiD_sl, isiD_lt, isiD_si, isiD_li, isiD_bb, eqD_int, okD_i, List.set_cons_zero, List.set_cons_succ, List.getElem?_cons_zero, List.getElem?_cons_succ, List.length_cons, List.length_nil, List.map_cons, List.map_nil, Option.bind_some, put_same, Bool.xor_false, Bool.false_xor]
    have e1 : ((l : Int) - (0 + (i : Int) + 1)).toNat = l - (i + 1) := by omega
    refine ⟨⟨by omega, by omega, by omega, by omega⟩, ?_⟩
    rw [e1]
    unfold rgD
    refine forA_find (fun Δ => ∃ x3 x4 : Option D, Δ = [some (.tup (r.map .int)), some (.int l), some (.int (0 + (i : Int))), x3, x4]) (fun t : Nat => D.int ((0 + (i : Int) + 1) + t)) (fun t => fw3 r l i (i + 1 + t)) (fun q => .tup (q.map D.int)) ?_ (List.range (l - (i + 1))) (fun t ht Δ N2 hS hN2 hR2 => ?_) (fun e Δ hS => ?_) ?_ ?_
    · trivial
    · obtain ⟨x3, x4, rfl⟩ := hS
      rw [List.mem_range] at ht
      simp only [aSeq, aAsg, Tg.A, aVar, aC, aOp, aCons, aNil, aCall, aTup, aLst, aLstM, aFrz, aRet, aIfS, aNext, aDrop, aNever, aB, aAnd, aOr, aNot, aAndV, aOrV, aNotV, aIf, aCh, aNeg, aIsN, isN, oI0, oI, oEq, oIn, oIx, oAdd, oDIn, oDGet, oSub, oMod, oFdiv, oPow, oMul, oLt, oLe, oGt, oGe, pLe, pLt, see, items, cLen, cAll, cAny, cSorted, cSortedM, cSum, cMax, cMax2, cMin2, cList, cListM, cTuple, aIsi, aTupRg, aLstRg, oNone, oSome, aSl, aRev, aRevM, aBM, mAppend, mPopAt, mInsert, aDNew, aSetI, aSetD, aPar3, aAsgU, aLenSetS, aTabS, oIsB, mIndex, cMinT, aFor, aWhile, iSeq, seqOf, iRg1, iRg2, iZip, iEnum, aYes, aLc, aLcM, aPar, wipeD, setAll, tyD, eq_self, true_implies, false_implies, implies_true, and_true, true_and, ne_eq, not_false_eq_true, reduceCtorEq, Bool.not_true, Bool.not_false, ix30, ix32, at30, at31, at32, isiD_ii, isiD_bi, isiD_tt, isiD_ll, isiD_il, isiD_bl2, isiD_it, isiD_bt, isiD_st, isiD_sl, isiD_lt, isiD_si, isiD_li, isiD_bb, eqD_int, okD_i, List.set_cons_zero, List.set_cons_succ, List.getElem?_cons_zero, List.getElem?_cons_succ, List.length_cons, List.length_nil, List.map_cons, List.map_nil, Option.bind_some, put_same, Bool.xor_false, Bool.false_xor]
      have e2 : ((l : Int) - (0 + (i : Int) + 1 + (t : Int) + 1)).toNat = l - (i + 1 + t + 1) := by omega
      refine ⟨⟨by omega, by omega, by omega, by omega⟩, ?_⟩
      rw [e2]
      unfold rgD
      refine forA_find (fun Δ => ∃ x4 : Option D, Δ = [some (.tup (r.map .int)), some (.int l), some (.int (0 + (i : Int))), some (.int (0 + (i : Int) + 1 + t)), x4]) (fun u : Nat => D.int ((0 + (i : Int) + 1 + t + 1) + u)) (fun u => f3 r l i (i + 1 + t) (i + 1 + t + 1 + u)) (fun q => .tup (q.map D.int)) ?_ (List.range (l - (i + 1 + t + 1))) (fun u hu Δ N3 hS hN3 hR3 => ?_) (fun e Δ hS => ?_) ?_ ?_
      · trivial
      · obtain ⟨x4, rfl⟩ := hS
        rw [List.mem_range] at hu
        have p1 : (0 : Int) + (i : Int) = ((i : Nat) : Int) := by omega
        have p2 : (0 : Int) + (i : Int) + 1 + (t : Int) = ((i + 1 + t : Nat) : Int) := by omega
        have p3 : (0 : Int) + (i : Int) + 1 + (t : Int) + 1 + (u : Int) = ((i + 1 + t + 1 + u : Nat) : Int) := by omega
        rw [p3, p2, p1]
        have a1 := at_map (r := r) (i := i) (by omega)
        have a2 := at_map (r := r) (i := i + 1 + t) (by omega)
        have a3 := at_map (r := r) (i := i + 1 + t + 1 + u) (by omega)
        have a4 := at_map (r := r) (i := l) hl
        simp only [aSeq, aAsg, Tg.A, aVar, aC, aOp, aCons, aNil, aCall, aTup, aLst, aLstM, aFrz, aRet, aIfS, aNext, aDrop, aNever, aB, aAnd, aOr, aNot, aAndV, aOrV, aNotV, aIf, aCh, aNeg, aIsN, isN, oI0, oI, oEq, oIn, oIx, oAdd, oDIn, oDGet, oSub, oMod, oFdiv, oPow, oMul, oLt, oLe, oGt, oGe, pLe, pLt, see, items, cLen, cAll, cAny, cSorted, cSortedM, cSum, cMax, cMax2, cMin2, cList, cListM, cTuple, aIsi, aTupRg, aLstRg, oNone, oSome, aSl, aRev, aRevM, aBM, mAppend, mPopAt, mInsert, aDNew, aSetI, aSetD, aPar3, aAsgU, aLenSetS, aTabS, oIsB, mIndex, cMinT, aFor, aWhile, iSeq, seqOf, iRg1, iRg2, iZip, iEnum, aYes, aLc, aLcM, aPar, wipeD, setAll, tyD, eq_self, true_implies, false_implies, implies_true, and_true, true_and, ne_eq, not_false_eq_true, reduceCtorEq, Bool.not_true, Bool.not_false, ix30, ix32, at30, at31, at32, isiD_ii, isiD_bi, isiD_tt, isiD_ll, isiD_il, isiD_bl2, isiD_it, isiD_bt, isiD_st, isiD_sl, isiD_lt, isiD_si, isiD_li, isiD_bb, eqD_int, okD_i, List.set_cons_zero, List.set_cons_succ, List.getElem?_cons_zero, List.getElem?_cons_succ, List.length_cons, List.length_nil, List.map_cons, List.map_nil, Option.bind_some, put_same, Bool.xor_false, Bool.false_xor, a1, a2, a3, a4, A_barring]
        refine ⟨by simp, _, _, _, _, _, rfl, rfl, fun z => ?_, fun z => ?_⟩
        · have hb := of_decide_eq_true z
          refine ⟨by simp, ?_⟩
          exact hR3 [(i : Int), ((i + 1 + t : Nat) : Int), ((i + 1 + t + 1 + u : Nat) : Int), (l : Int)] (by unfold f3; rw [if_pos hb])
        · have hb := of_decide_eq_false z
          exact hN3 (by unfold f3; rw [if_neg hb]) _ ⟨_, by rw [p2, p1]⟩
      · obtain ⟨x4, rfl⟩ := hS
        exact hN2 e _ ⟨_, _, rfl⟩
      · exact fun x e => hR2 x e
      · exact ⟨_, rfl⟩
    · obtain ⟨x3, x4, rfl⟩ := hS
      exact hN e _ ⟨_, _, _, rfl⟩
    · exact fun x e => hR x e
    · exact ⟨_, _, rfl⟩
  · obtain ⟨x2, x3, x4, rfl⟩ := hS
    have e2 : fourWith r l = none := e
    rw [e2] at h
    exact Rt.same h
/-! four -/
abbrev N_four : List Str := ["row", "found", "last", "some", "places"]
def A_four : ASp := fun ds L K => ∃ r : List Int, ds = [.tup (r.map .int)] ∧ Row r ∧ K (fourD (fourOf r)) L
theorem okD_four (n : Nat) (q : Option (List Int)) : okD (n + 1) (fourD q) = true := by
  cases q with
  | none => rfl
  | some q => exact okD_tints q n
def t_four : ATS :=
  (aSeq (aDrop (aCall A_need_row (aCons (aVar 0) aNil)))
  (aSeq (aAsg (aLc (iRg2 (aC (.int 3)) (aCall cLen (aCons (aVar 0) aNil))) (.one 2) aYes (aCall A_four_with (aCons (aVar 0) (aCons (aVar 2) aNil))) [2]) (.one 1))
  (aSeq (aAsg (aLc (iSeq (aVar 1)) (.one 4) (aB (aIsN true (aVar 4))) (aVar 4) [4]) (.one 3))
  (aRet (aIf (aB (aOp (oEq true) (aVar 3) (aLst aNil))) (aCall cMinT (aCons (aVar 3) aNil)) (aC .non))))))
theorem r_four {ds : List D} {L : Lg} {Kk : AK} (h : A_four ds L Kk) : t_four { nx := fun _ L' => Rt Kk .non L', rt := Rt Kk } (startD N_four ds) L := by
  obtain ⟨r, rfl, hr, h⟩ := h
  show t_four _ [some (.tup (r.map .int)), none, none, none, none] L
  unfold t_four
  have hfew := hr.few
  simp only [aSeq, aAsg, Tg.A, aVar, aC, aOp, aCons, aNil, aCall, aTup, aLst, aLstM, aFrz, aRet, aIfS, aNext, aDrop, aNever, aB, aAnd, aOr, aNot, aAndV, aOrV, aNotV, aIf, aCh, aNeg, aIsN, isN, oI0, oI, oEq, oIn, oIx, oAdd, oDIn, oDGet, oSub, oMod, oFdiv, oPow, oMul, oLt, oLe, oGt, oGe, pLe, pLt, see, items, cLen, cAll, cAny, cSorted, cSortedM, cSum, cMax, cMax2, cMin2, cList, cListM, cTuple, aIsi, aTupRg, aLstRg, oNone, oSome, aSl, aRev, aRevM, aBM, mAppend, mPopAt, mInsert, aDNew, aSetI, aSetD, aPar3, aAsgU, aLenSetS, aTabS, oIsB, mIndex, cMinT, aFor, aWhile, iSeq, seqOf, iRg1, iRg2, iZip, iEnum, aYes, aLc, aLcM, aPar, wipeD, setAll, tyD, eq_self, true_implies, false_implies, implies_true, and_true, true_and, ne_eq, not_false_eq_true, reduceCtorEq, Bool.not_true, Bool.not_false, ix30, ix32, at30, at31, at32, isiD_ii, isiD_bi, isiD_tt, isiD_ll, isiD_il, isiD_bl2, isiD_it, isiD_bt, isiD_st, isiD_sl, isiD_lt, isiD_si, isiD_li, isiD_bb, eqD_int, okD_i, List.set_cons_zero, List.set_cons_succ, List.getElem?_cons_zero, List.getElem?_cons_succ, List.length_cons, List.length_nil, List.map_cons, List.map_nil, Option.bind_some, put_same, Bool.xor_false, Bool.false_xor, A_need_row]
  refine ⟨r, rfl, hr, ?_⟩
  simp only [aSeq, aAsg, Tg.A, aVar, aC, aOp, aCons, aNil, aCall, aTup, aLst, aLstM, aFrz, aRet, aIfS, aNext, aDrop, aNever, aB, aAnd, aOr, aNot, aAndV, aOrV, aNotV, aIf, aCh, aNeg, aIsN, isN, oI0, oI, oEq, oIn, oIx, oAdd, oDIn, oDGet, oSub, oMod, oFdiv, oPow, oMul, oLt, oLe, oGt, oGe, pLe, pLt, see, items, cLen, cAll, cAny, cSorted, cSortedM, cSum, cMax, cMax2, cMin2, cList, cListM, cTuple, aIsi, aTupRg, aLstRg, oNone, oSome, aSl, aRev, aRevM, aBM, mAppend, mPopAt, mInsert, aDNew, aSetI, aSetD, aPar3, aAsgU, aLenSetS, aTabS, oIsB, mIndex, cMinT, aFor, aWhile, iSeq, seqOf, iRg1, iRg2, iZip, iEnum, aYes, aLc, aLcM, aPar, wipeD, setAll, tyD, eq_self, true_implies, false_implies, implies_true, and_true, true_and, ne_eq, not_false_eq_true, reduceCtorEq, Bool.not_true, Bool.not_false, ix30, ix32, at30, at31, at32, isiD_ii, isiD_bi, isiD_tt, isiD_ll, isiD_il, isiD_bl2, isiD_it, isiD_bt, isiD_st, isiD_sl, isiD_lt, isiD_si, isiD_li, isiD_bb, eqD_int, okD_i, List.set_cons_zero, List.set_cons_succ, List.getElem?_cons_zero, List.getElem?_cons_succ, List.length_cons, List.length_nil, List.map_cons, List.map_nil, Option.bind_some, put_same, Bool.xor_false, Bool.false_xor, List.length_map]
  refine ⟨⟨by decide, by decide, by omega, by omega⟩, by rw [rgD_len]; omega, ?_⟩
  have e1 : ((r.length : Int) - 3).toNat = r.length - 3 := by omega
  rw [e1]
  unfold rgD
  refine lcA_map (List.range (r.length - 3)) (fun t : Nat => D.int ((3 : Int) + t)) (fun t => [fourD (fourWith r (3 + t))]) (by simp) (fun t ht R hR => ?_) ?_
  · rw [List.mem_range] at ht
    simp only [aSeq, aAsg, Tg.A, aVar, aC, aOp, aCons, aNil, aCall, aTup, aLst, aLstM, aFrz, aRet, aIfS, aNext, aDrop, aNever, aB, aAnd, aOr, aNot, aAndV, aOrV, aNotV, aIf, aCh, aNeg, aIsN, isN, oI0, oI, oEq, oIn, oIx, oAdd, oDIn, oDGet, oSub, oMod, oFdiv, oPow, oMul, oLt, oLe, oGt, oGe, pLe, pLt, see, items, cLen, cAll, cAny, cSorted, cSortedM, cSum, cMax, cMax2, cMin2, cList, cListM, cTuple, aIsi, aTupRg, aLstRg, oNone, oSome, aSl, aRev, aRevM, aBM, mAppend, mPopAt, mInsert, aDNew, aSetI, aSetD, aPar3, aAsgU, aLenSetS, aTabS, oIsB, mIndex, cMinT, aFor, aWhile, iSeq, seqOf, iRg1, iRg2, iZip, iEnum, aYes, aLc, aLcM, aPar, wipeD, setAll, tyD, eq_self, true_implies, false_implies, implies_true, and_true, true_and, ne_eq, not_false_eq_true, reduceCtorEq, Bool.not_true, Bool.not_false, ix30, ix32, at30, at31, at32, isiD_ii, isiD_bi, isiD_tt, isiD_ll, isiD_il, isiD_bl2, isiD_it, isiD_bt, isiD_st, isiD_sl, isiD_lt, isiD_si, isiD_li, isiD_bb, eqD_int, okD_i, List.set_cons_zero, List.set_cons_succ, List.getElem?_cons_zero, List.getElem?_cons_succ, List.length_cons, List.length_nil, List.map_cons, List.map_nil, Option.bind_some, put_same, Bool.xor_false, Bool.false_xor, A_four_with]
    refine ⟨r, 3 + t, ?_, by omega, hfew, hR⟩
    have : ((3 : Int) + (t : Int)) = ((3 + t : Nat) : Int) := by omega
    rw [this]
  · rw [flatMap_one]
    refine ⟨by simp; omega, ?_⟩
    refine lcA_map (List.range (r.length - 3)) (fun t => fourD (fourWith r (3 + t))) (fun t => match fourWith r (3 + t) with
      | none => []
      | some q => [.tup (q.map .int)]) (by simp) (fun t ht R hR => ?_) ?_
    · cases e : fourWith r (3 + t) with
      | none =>
        rw [e] at hR
        simp only [aSeq, aAsg, Tg.A, aVar, aC, aOp, aCons, aNil, aCall, aTup, aLst, aLstM, aFrz, aRet, aIfS, aNext, aDrop, aNever, aB, aAnd, aOr, aNot, aAndV, aOrV, aNotV, aIf, aCh, aNeg, aIsN, isN, oI0, oI, oEq, oIn, oIx, oAdd, oDIn, oDGet, oSub, oMod, oFdiv, oPow, oMul, oLt, oLe, oGt, oGe, pLe, pLt, see, items, cLen, cAll, cAny, cSorted, cSortedM, cSum, cMax, cMax2, cMin2, cList, cListM, cTuple, aIsi, aTupRg, aLstRg, oNone, oSome, aSl, aRev, aRevM, aBM, mAppend, mPopAt, mInsert, aDNew, aSetI, aSetD, aPar3, aAsgU, aLenSetS, aTabS, oIsB, mIndex, cMinT, aFor, aWhile, iSeq, seqOf, iRg1, iRg2, iZip, iEnum, aYes, aLc, aLcM, aPar, wipeD, setAll, tyD, eq_self, true_implies, false_implies, implies_true, and_true, true_and, ne_eq, not_false_eq_true, reduceCtorEq, Bool.not_true, Bool.not_false, ix30, ix32, at30, at31, at32, isiD_ii, isiD_bi, isiD_tt, isiD_ll, isiD_il, isiD_bl2, isiD_it, isiD_bt, isiD_st, isiD_sl, isiD_lt, isiD_si, isiD_li, isiD_bb, eqD_int, okD_i, List.set_cons_zero, List.set_cons_succ, List.getElem?_cons_zero, List.getElem?_cons_succ, List.length_cons, List.length_nil, List.map_cons, List.map_nil, Option.bind_some, put_same, Bool.xor_false, Bool.false_xor, fourD]
        first | exact hR | exact ⟨fun z => (by cases z), fun _ => hR⟩
      | some q =>
        rw [e] at hR
        simp only [aSeq, aAsg, Tg.A, aVar, aC, aOp, aCons, aNil, aCall, aTup, aLst, aLstM, aFrz, aRet, aIfS, aNext, aDrop, aNever, aB, aAnd, aOr, aNot, aAndV, aOrV, aNotV, aIf, aCh, aNeg, aIsN, isN, oI0, oI, oEq, oIn, oIx, oAdd, oDIn, oDGet, oSub, oMod, oFdiv, oPow, oMul, oLt, oLe, oGt, oGe, pLe, pLt, see, items, cLen, cAll, cAny, cSorted, cSortedM, cSum, cMax, cMax2, cMin2, cList, cListM, cTuple, aIsi, aTupRg, aLstRg, oNone, oSome, aSl, aRev, aRevM, aBM, mAppend, mPopAt, mInsert, aDNew, aSetI, aSetD, aPar3, aAsgU, aLenSetS, aTabS, oIsB, mIndex, cMinT, aFor, aWhile, iSeq, seqOf, iRg1, iRg2, iZip, iEnum, aYes, aLc, aLcM, aPar, wipeD, setAll, tyD, eq_self, true_implies, false_implies, implies_true, and_true, true_and, ne_eq, not_false_eq_true, reduceCtorEq, Bool.not_true, Bool.not_false, ix30, ix32, at30, at31, at32, isiD_ii, isiD_bi, isiD_tt, isiD_ll, isiD_il, isiD_bl2, isiD_it, isiD_bt, isiD_st, isiD_sl, isiD_lt, isiD_si, isiD_li, isiD_bb, eqD_int, okD_i, List.set_cons_zero, List.set_cons_succ, List.getElem?_cons_zero, List.getElem?_cons_succ, List.length_cons, List.length_nil, List.map_cons, List.map_nil, Option.bind_some, put_same, Bool.xor_false, Bool.false_xor, fourD]
        first | exact hR | exact ⟨fun _ => hR, fun z => (by cases z)⟩
    · have e2 : ((List.range (r.length - 3)).flatMap fun t => match fourWith r (3 + t) with
          | none => []
          | some q => [D.tup (q.map .int)]) = (fours r).map fun q => D.tup (q.map .int) := by
        unfold fours
        generalize List.range (r.length - 3) = xs
        induction xs with
        | nil => rfl
        | cons x xs ih =>
          rw [List.flatMap_cons, ih, List.filterMap_cons]
          cases fourWith r (3 + x) <;> simp
      rw [e2]
      have o1 : okD 64 (.lst ((fours r).map fun q => D.tup (q.map .int))) = true := okDs_map _ (fun q => okD_tints q 62) _
      have o2 : okD 64 (.lst []) = true := rfl
      simp only [aSeq, aAsg, Tg.A, aVar, aC, aOp, aCons, aNil, aCall, aTup, aLst, aLstM, aFrz, aRet, aIfS, aNext, aDrop, aNever, aB, aAnd, aOr, aNot, aAndV, aOrV, aNotV, aIf, aCh, aNeg, aIsN, isN, oI0, oI, oEq, oIn, oIx, oAdd, oDIn, oDGet, oSub, oMod, oFdiv, oPow, oMul, oLt, oLe, oGt, oGe, pLe, pLt, see, items, cLen, cAll, cAny, cSorted, cSortedM, cSum, cMax, cMax2, cMin2, cList, cListM, cTuple, aIsi, aTupRg, aLstRg, oNone, oSome, aSl, aRev, aRevM, aBM, mAppend, mPopAt, mInsert, aDNew, aSetI, aSetD, aPar3, aAsgU, aLenSetS, aTabS, oIsB, mIndex, cMinT, aFor, aWhile, iSeq, seqOf, iRg1, iRg2, iZip, iEnum, aYes, aLc, aLcM, aPar, wipeD, setAll, tyD, eq_self, true_implies, false_implies, implies_true, and_true, true_and, ne_eq, not_false_eq_true, reduceCtorEq, Bool.not_true, Bool.not_false, ix30, ix32, at30, at31, at32, isiD_ii, isiD_bi, isiD_tt, isiD_ll, isiD_il, isiD_bl2, isiD_it, isiD_bt, isiD_st, isiD_sl, isiD_lt, isiD_si, isiD_li, isiD_bb, eqD_int, okD_i, List.set_cons_zero, List.set_cons_succ, List.getElem?_cons_zero, List.getElem?_cons_succ, List.length_cons, List.length_nil, List.map_cons, List.map_nil, Option.bind_some, put_same, Bool.xor_false, Bool.false_xor, o1, o2, eqD_nil, List.isEmpty_map]
      unfold fourOf at h
      cases e : fours r with
      | nil =>
        rw [e] at h
        exact ⟨by decide, fun z => (by cases z), fun _ => Rt.same h⟩
      | cons q qs =>
        rw [e] at h
        exact ⟨by decide, fun _ => ⟨q, qs, rfl, Rt.same h⟩, fun z => (by cases z)⟩
/-! bars -/
abbrev N_bars : List Str := ["row", "thing", "place"]
def A_bars : ASp := fun ds L K => ∃ (r : List Int) (i j k l : Nat), ds = [.tup (r.map .int), .tup [.int i, .int j, .int k, .int l]] ∧ Row r ∧ i < j ∧ j < k ∧ k < l ∧ l < r.length ∧ K (.bl (decide (Bar (at0 r i) (at0 r j) (at0 r k) (at0 r l)))) L
def t_bars : ATS :=
  (aSeq (aDrop (aCall A_need_row (aCons (aVar 0) aNil)))
  (aSeq (aIfS (aOr (aNot (aB (aIsi "tuple" (aVar 1)))) (aB (aOp (oEq true) (aCall cLen (aCons (aVar 1) aNil)) (aC (.int 4))))) (aRet (aC (.bl false))) aNext)
  (aSeq (aIfS (aOr (aNot (aB (aCall cAll (aCons (aLc (iSeq (aVar 1)) (.one 2) aYes (aCall A_is_from (aCons (aVar 2) (aCons (aC (.int 0)) (aCons (aOp oSub (aCall cLen (aCons (aVar 0) aNil)) (aC (.int 1))) aNil)))) [2]) aNil)))) (aNot (aB (aCall A_is_rising (aCons (aVar 1) aNil))))) (aRet (aC (.bl false))) aNext)
  (aRet (aCall A_barring (aCons (aLc (iSeq (aVar 1)) (.one 2) aYes (aOp oIx (aVar 0) (aVar 2)) [2]) aNil))))))
theorem r_bars {ds : List D} {L : Lg} {Kk : AK} (h : A_bars ds L Kk) : t_bars { nx := fun _ L' => Rt Kk .non L', rt := Rt Kk } (startD N_bars ds) L := by
  obtain ⟨r, i, j, k, l, rfl, hr, h1, h2, h3, h4, h⟩ := h
  show t_bars _ [some (.tup (r.map .int)), some (.tup [.int i, .int j, .int k, .int l]), none] L
  unfold t_bars
  have hfew := hr.few
  have hm : ([.int i, .int j, .int k, .int l] : List D) = ([i, j, k, l] : List Nat).map fun x : Nat => D.int x := rfl
  simp only [aSeq, aAsg, Tg.A, aVar, aC, aOp, aCons, aNil, aCall, aTup, aLst, aLstM, aFrz, aRet, aIfS, aNext, aDrop, aNever, aB, aAnd, aOr, aNot, aAndV, aOrV, aNotV, aIf, aCh, aNeg, aIsN, isN, oI0, oI, oEq, oIn, oIx, oAdd, oDIn, oDGet, oSub, oMod, oFdiv, oPow, oMul, oLt, oLe, oGt, oGe, pLe, pLt, see, items, cLen, cAll, cAny, cSorted, cSortedM, cSum, cMax, cMax2, cMin2, cList, cListM, cTuple, aIsi, aTupRg, aLstRg, oNone, oSome, aSl, aRev, aRevM, aBM, mAppend, mPopAt, mInsert, aDNew, aSetI, aSetD, aPar3, aAsgU, aLenSetS, aTabS, oIsB, mIndex, cMinT, aFor, aWhile, iSeq, seqOf, iRg1, iRg2, iZip, iEnum, aYes, aLc, aLcM, aPar, wipeD, setAll, tyD, eq_self, true_implies, false_implies, implies_true, and_true, true_and, ne_eq, not_false_eq_true, reduceCtorEq, Bool.not_true, Bool.not_false, ix30, ix32, at30, at31, at32, isiD_ii, isiD_bi, isiD_tt, isiD_ll, isiD_il, isiD_bl2, isiD_it, isiD_bt, isiD_st, isiD_sl, isiD_lt, isiD_si, isiD_li, isiD_bb, eqD_int, okD_i, List.set_cons_zero, List.set_cons_succ, List.getElem?_cons_zero, List.getElem?_cons_succ, List.length_cons, List.length_nil, List.map_cons, List.map_nil, Option.bind_some, put_same, Bool.xor_false, Bool.false_xor, A_need_row]
  refine ⟨r, rfl, hr, ?_⟩
  refine ⟨by decide, fun z => absurd z (by decide), fun _ => ⟨by decide, ?_⟩⟩
  show lcA _ _ _ _ _ (([i, j, k, l] : List Nat).map fun x : Nat => D.int x) [] _ _
  have hlt : ∀ x ∈ ([i, j, k, l] : List Nat), x < r.length := by
    intro x hx
    simp only [List.mem_cons, List.not_mem_nil, or_false] at hx
    omega
  refine lcA_map [i, j, k, l] (fun x : Nat => D.int x) (fun x => [.bl (decide ((0 : Int) ≤ (x : Int)) && decide ((x : Int) ≤ (r.length : Int) - 1))]) (by simp) (fun x hx R hR => ?_) ?_
  · simp only [aSeq, aAsg, Tg.A, aVar, aC, aOp, aCons, aNil, aCall, aTup, aLst, aLstM, aFrz, aRet, aIfS, aNext, aDrop, aNever, aB, aAnd, aOr, aNot, aAndV, aOrV, aNotV, aIf, aCh, aNeg, aIsN, isN, oI0, oI, oEq, oIn, oIx, oAdd, oDIn, oDGet, oSub, oMod, oFdiv, oPow, oMul, oLt, oLe, oGt, oGe, pLe, pLt, see, items, cLen, cAll, cAny, cSorted, cSortedM, cSum, cMax, cMax2, cMin2, cList, cListM, cTuple, aIsi, aTupRg, aLstRg, oNone, oSome, aSl, aRev, aRevM, aBM, mAppend, mPopAt, mInsert, aDNew, aSetI, aSetD, aPar3, aAsgU, aLenSetS, aTabS, oIsB, mIndex, cMinT, aFor, aWhile, iSeq, seqOf, iRg1, iRg2, iZip, iEnum, aYes, aLc, aLcM, aPar, wipeD, setAll, tyD, eq_self, true_implies, false_implies, implies_true, and_true, true_and, ne_eq, not_false_eq_true, reduceCtorEq, Bool.not_true, Bool.not_false, ix30, ix32, at30, at31, at32, isiD_ii, isiD_bi, isiD_tt, isiD_ll, isiD_il, isiD_bl2, isiD_it, isiD_bt, isiD_st, isiD_sl, isiD_lt, isiD_si, isiD_li, isiD_bb, eqD_int, okD_i, List.set_cons_zero, List.set_cons_succ, List.getElem?_cons_zero, List.getElem?_cons_succ, List.length_cons, List.length_nil, List.map_cons, List.map_nil, Option.bind_some, put_same, Bool.xor_false, Bool.false_xor, A_is_from, List.length_map]
    exact ⟨_, _, _, rfl, trivial, hR⟩
  · rw [flatMap_one, asBls_map]
    have hall : (([i, j, k, l] : List Nat).map fun x : Nat => decide ((0 : Int) ≤ (x : Int)) && decide ((x : Int) ≤ (r.length : Int) - 1)).all id = true := by
      rw [List.all_map, List.all_eq_true]
      intro x hx
      have := hlt x hx
      simp
      omega
    dsimp only
    rw [hall]
    refine ⟨fun z => absurd z (by decide), fun _ => ⟨_, [(i : Int), (j : Int), (k : Int), (l : Int)], rfl, .inr rfl, ?_, by simp, ?_⟩⟩
    · simp
      omega
    · refine ⟨fun z => absurd z (by decide), fun _ => ⟨by decide, ?_⟩⟩
      show lcA _ _ _ _ _ (([i, j, k, l] : List Nat).map fun x : Nat => D.int x) [] _ _
      refine lcA_map [i, j, k, l] (fun x : Nat => D.int x) (fun x => [.int (at0 r x)]) (by simp) (fun x hx R hR => ?_) ?_
      · have hat := at_map (hlt x hx)
        simp only [aSeq, aAsg, Tg.A, aVar, aC, aOp, aCons, aNil, aCall, aTup, aLst, aLstM, aFrz, aRet, aIfS, aNext, aDrop, aNever, aB, aAnd, aOr, aNot, aAndV, aOrV, aNotV, aIf, aCh, aNeg, aIsN, isN, oI0, oI, oEq, oIn, oIx, oAdd, oDIn, oDGet, oSub, oMod, oFdiv, oPow, oMul, oLt, oLe, oGt, oGe, pLe, pLt, see, items, cLen, cAll, cAny, cSorted, cSortedM, cSum, cMax, cMax2, cMin2, cList, cListM, cTuple, aIsi, aTupRg, aLstRg, oNone, oSome, aSl, aRev, aRevM, aBM, mAppend, mPopAt, mInsert, aDNew, aSetI, aSetD, aPar3, aAsgU, aLenSetS, aTabS, oIsB, mIndex, cMinT, aFor, aWhile, iSeq, seqOf, iRg1, iRg2, iZip, iEnum, aYes, aLc, aLcM, aPar, wipeD, setAll, tyD, eq_self, true_implies, false_implies, implies_true, and_true, true_and, ne_eq, not_false_eq_true, reduceCtorEq, Bool.not_true, Bool.not_false, ix30, ix32, at30, at31, at32, isiD_ii, isiD_bi, isiD_tt, isiD_ll, isiD_il, isiD_bl2, isiD_it, isiD_bt, isiD_st, isiD_sl, isiD_lt, isiD_si, isiD_li, isiD_bb, eqD_int, okD_i, List.set_cons_zero, List.set_cons_succ, List.getElem?_cons_zero, List.getElem?_cons_succ, List.length_cons, List.length_nil, List.map_cons, List.map_nil, Option.bind_some, put_same, Bool.xor_false, Bool.false_xor, hat]
        exact hR
      · exact ⟨_, at0 r i, at0 r j, at0 r k, at0 r l, rfl, rfl, Rt.same h⟩
/-! most_from -/
abbrev N_most_from : List Str := ["row", "worths", "at", "last", "known", "spot", "best", "side", "there"]
structure MemoB (r ws : List Int) (kvs : List (NestedKey × D)) : Prop where
  all : ∀ x ∈ kvs, ∃ (i : Nat) (u v : Int), x = (gKey i u v, .int (best (r.drop i) (ws.drop i) u v)) ∧ i ≤ r.length ∧ u ∈ -1 :: r ∧ v ∈ 1000000001 :: r
  nd : (kvs.map (·.1)).Nodup
theorem MemoB.nil (r ws : List Int) : MemoB r ws [] := ⟨by simp, by simp⟩
theorem MemoB.memo {r ws : List Int} {kvs : List (NestedKey × D)} (h : MemoB r ws kvs) : ∃ kvs', Memo r kvs' ∧ kvs'.map (·.1) = kvs.map (·.1) := by
  refine ⟨kvs.map fun x => (x.1, .bl (match x.1 with | .tup [.num i, .tup [.num u, .num v]] => goodB (r.drop i.toNat) u v | _ => true)), ⟨fun x hx => ?_, ?_⟩, ?_⟩
  · obtain ⟨y, hy, rfl⟩ := List.mem_map.mp hx
    obtain ⟨i, u, v, rfl, a⟩ := h.all y hy
    exact ⟨i, u, v, rfl, a⟩
  · rw [List.map_map]; exact h.nd
  · rw [List.map_map]; rfl
theorem MemoB.few {r ws : List Int} {kvs : List (NestedKey × D)} (h : MemoB r ws kvs) (hr : r.length ≤ 40) : kvs.length < 1000000 := by
  obtain ⟨k, m, e⟩ := h.memo
  have := congrArg List.length e
  rw [List.length_map, List.length_map] at this
  rw [← this]
  exact m.few hr
theorem gKey_inj {i j : Nat} {u v a b : Int} (e : gKey i u v = gKey j a b) : i = j ∧ u = a ∧ v = b := by
  unfold gKey at e
  injection e with e5
  injection e5 with e6 e7
  injection e6 with e8
  injection e7 with e9 _
  injection e9 with e10
  injection e10 with e11 e12
  injection e11 with e13
  injection e12 with e14 _
  injection e14 with e15
  exact ⟨by omega, e13, e15⟩
theorem MemoB.get {r ws : List Int} {kvs : List (NestedKey × D)} (h : MemoB r ws kvs) {i : Nat} {u v : Int} {d : D} (e : dget kvs (gKey i u v) = some d) : d = .int (best (r.drop i) (ws.drop i) u v) := by
  obtain ⟨j, a, b, e2, _⟩ := h.all _ (dget_mem e)
  injection e2 with e3 e4
  obtain ⟨rfl, rfl, rfl⟩ := gKey_inj e3
  exact e4
theorem MemoB.put {r ws : List Int} {kvs : List (NestedKey × D)} (h : MemoB r ws kvs) {i : Nat} {u v : Int} (hi : i ≤ r.length) (hu : u ∈ -1 :: r) (hv : v ∈ 1000000001 :: r) : MemoB r ws (dput kvs (gKey i u v) (.int (best (r.drop i) (ws.drop i) u v))) :=
  ⟨fun x hx => (dput_mem hx).elim (fun e => ⟨i, u, v, e, hi, hu, hv⟩) (h.all x), dput_keys _ _ _ h.nd⟩
def A_mf (n : Nat) : ASp := fun ds L K => ∃ (r ws : List Int) (i : Nat) (u v : Int) (p : Addr) (kvs : List (NestedKey × D)), ds = [.tup (r.map .int), .tup (ws.map .int), .int i, .tup [.int u, .int v], .ref p] ∧ L p = some (.dct kvs) ∧ MemoB r ws kvs ∧ ws.length = r.length ∧ r.length ≤ 40 ∧ i ≤ r.length ∧ r.length - i ≤ n ∧ u ∈ -1 :: r ∧ v ∈ 1000000001 :: r ∧
  ∀ kvs', MemoB r ws kvs' → K (.int (best (r.drop i) (ws.drop i) u v)) (put L p (.dct kvs'))
def A_mfp : Nat → ASp
  | 0 => fun _ _ _ => False
  | n + 1 => A_mf n
def A_most_from : ASp := A_mf 40
theorem best_nil (ws : List Int) (u v : Int) : best [] ws u v = 0 := by cases ws <;> rfl
/-- the best after so many sides -/
def bbN (b0 b1 b2 : Int) : Nat → Int
  | 0 => b0
  | 1 => b1
  | _ => b2
def t_most_from (Arec : ASp) : ATS :=
  (aSeq (aIfS (aB (aOp (oEq false) (aVar 2) (aCall cLen (aCons (aVar 0) aNil)))) (aRet (aC (.int 0))) aNext)
  (aSeq (aAsg (aTup (aCons (aVar 2) (aCons (aVar 3) aNil))) (.one 5))
  (aSeq (aIfS (aB (aOp (oDIn true) (aVar 5) (aVar 4))) (aSeq (aAsg (aCall Arec (aCons (aVar 0) (aCons (aVar 1) (aCons (aOp oAdd (aVar 2) (aC (.int 1))) (aCons (aVar 3) (aCons (aVar 4) aNil)))))) (.one 6))
  (aSeq (aFor (iSeq (aTup (aCons (aC (.str "down")) (aCons (aC (.str "up")) aNil)))) (.one 7) (aSeq (aAsg (aCall A_next_last (aCons (aVar 3) (aCons (aOp oIx (aVar 0) (aVar 2)) (aCons (aVar 7) aNil)))) (.one 8))
  (aIfS (aB (aIsN true (aVar 8))) (aAsg (aCall cMax2 (aCons (aVar 6) (aCons (aOp oAdd (aOp oIx (aVar 1) (aVar 2)) (aCall Arec (aCons (aVar 0) (aCons (aVar 1) (aCons (aOp oAdd (aVar 2) (aC (.int 1))) (aCons (aVar 8) (aCons (aVar 4) aNil))))))) aNil))) (.one 6)) aNext)))
  (aSetD (aVar 6) (aVar 4) (aVar 5)))) aNext)
  (aRet (aOp oDGet (aVar 4) (aVar 5))))))
theorem r_most_from (n : Nat) {ds : List D} {L : Lg} {Kk : AK} (h : A_mf n ds L Kk) : t_most_from (A_mfp n) { nx := fun _ L' => Rt Kk .non L', rt := Rt Kk } (startD N_most_from ds) L := by
  obtain ⟨r, ws, i, u, v, p, kvs, rfl, hp, hm, hws, hr, hi, hn, hu, hv, h⟩ := h
  show t_most_from _ _ [some (.tup (r.map .int)), some (.tup (ws.map .int)), some (.int i), some (.tup [.int u, .int v]), some (.ref p), none, none, none, none] L
  unfold t_most_from
  have hk : keyOf (.tup [.int i, .tup [.int u, .int v]]) = some (.tup [.num i, .tup [.num u, .num v]]) := rfl
  have hd : (NestedKey.tup [.num i, .tup [.num u, .num v]]).depth ≤ 8 := Nat.le_of_ble_eq_true rfl
  simp only [aSeq, aAsg, Tg.A, aVar, aC, aOp, aCons, aNil, aCall, aTup, aLst, aLstM, aFrz, aRet, aIfS, aNext, aDrop, aNever, aB, aAnd, aOr, aNot, aAndV, aOrV, aNotV, aIf, aCh, aNeg, aIsN, isN, oI0, oI, oEq, oIn, oIx, oAdd, oDIn, oDGet, oSub, oMod, oFdiv, oPow, oMul, oLt, oLe, oGt, oGe, pLe, pLt, see, items, cLen, cAll, cAny, cSorted, cSortedM, cSum, cMax, cMax2, cMin2, cList, cListM, cTuple, aIsi, aTupRg, aLstRg, oNone, oSome, aSl, aRev, aRevM, aBM, mAppend, mPopAt, mInsert, aDNew, aSetI, aSetD, aPar3, aAsgU, aLenSetS, aTabS, oIsB, mIndex, cMinT, aFor, aWhile, iSeq, seqOf, iRg1, iRg2, iZip, iEnum, aYes, aLc, aLcM, aPar, wipeD, setAll, tyD, eq_self, true_implies, false_implies, implies_true, and_true, true_and, ne_eq, not_false_eq_true, reduceCtorEq, Bool.not_true, Bool.not_false, ix30, ix32, at30, at31, at32, isiD_ii, isiD_bi, isiD_tt, isiD_ll, isiD_il, isiD_bl2, isiD_it, isiD_bt, isiD_st, isiD_sl, isiD_lt, isiD_si, isiD_li, isiD_bb, eqD_int, okD_i, List.set_cons_zero, List.set_cons_succ, List.getElem?_cons_zero, List.getElem?_cons_succ, List.length_cons, List.length_nil, List.map_cons, List.map_nil, Option.bind_some, put_same, Bool.xor_false, Bool.false_xor, List.length_map, hp, hk]
  refine ⟨fun _ => ?_, fun _ => ?_⟩
  · rename_i e
    have e2 : i = r.length := by have e3 := of_decide_eq_true e; omega
    refine Rt.same ?_
    have := h kvs hm
    rw [put_self hp, e2, List.drop_length, best_nil] at this
    exact this
  rename_i e
  have e2 : i ≠ r.length := by have e3 := of_decide_eq_false e; omega
  cases n with
  | zero => omega
  | succ n =>
  refine ⟨by omega, hd, fun e3 => ?_, fun e3 => ?_⟩
  · have hc : r[i]? = some (r[i]'(by omega)) := List.getElem?_eq_getElem _
    have hdr : r.drop i = r[i]'(by omega) :: r.drop (i + 1) := List.drop_eq_getElem_cons _
    generalize r[i]'(by omega) = c at hc hdr
    have hw : ws[i]? = some (ws[i]'(by omega)) := List.getElem?_eq_getElem _
    have hdw : ws.drop i = ws[i]'(by omega) :: ws.drop (i + 1) := List.drop_eq_getElem_cons _
    generalize ws[i]'(by omega) = w at hw hdw
    have hat : atI (r.map D.int) (i : Int) = some (.int c) := atI_nat (by rw [List.getElem?_map, hc]; rfl)
    have haw : atI (ws.map D.int) (i : Int) = some (.int w) := atI_nat (by rw [List.getElem?_map, hw]; rfl)
    have hcr : c ∈ r := List.mem_of_getElem? hc
    have hb : best (r.drop i) (ws.drop i) u v = max (max (best (r.drop (i + 1)) (ws.drop (i + 1)) u v) (if c < v then w + best (r.drop (i + 1)) (ws.drop (i + 1)) u c else best (r.drop (i + 1)) (ws.drop (i + 1)) u v)) (if u < c then w + best (r.drop (i + 1)) (ws.drop (i + 1)) c v else best (r.drop (i + 1)) (ws.drop (i + 1)) u v) := by
      rw [hdr, hdw]; rfl
    generalize hb0 : best (r.drop (i + 1)) (ws.drop (i + 1)) u v = b0 at hb
    generalize hb1 : max b0 (if c < v then w + best (r.drop (i + 1)) (ws.drop (i + 1)) u c else b0) = b1 at hb
    generalize hb2 : max b1 (if u < c then w + best (r.drop (i + 1)) (ws.drop (i + 1)) c v else b0) = b2 at hb
    have le01 : b0 ≤ b1 := by rw [← hb1]; exact Int.le_max_left _ _
    refine ⟨r, ws, i + 1, u, v, p, kvs, by simp, hp, hm, hws, hr, by omega, by omega, hu, hv, fun kvs1 m1 => ?_⟩
    rw [hb0]
    refine ⟨by decide, ?_⟩
    refine forA_ind (fun j Δ L' => ∃ (x7 x8 : Option D) (kvs' : List (NestedKey × D)), Δ = [some (.tup (r.map .int)), some (.tup (ws.map .int)), some (.int i), some (.tup [.int u, .int v]), some (.ref p), some (.tup [.int i, .tup [.int u, .int v]]), some (.int (bbN b0 b1 b2 j)), x7, x8] ∧ MemoB r ws kvs' ∧ L' = put L p (.dct kvs'))
      (fun _ _ _ _ => trivial) (fun j d Δ L' N ej I hN => ?_) (fun Δ L' I => ?_) ⟨_, _, kvs1, rfl, m1, rfl⟩
    · obtain ⟨x7, x8, kvs', rfl, m', rfl⟩ := I
      have fin : ∀ (z : Int) (x7 x8 : Option D) (kvs2 : List (NestedKey × D)), MemoB r ws kvs2 → z = bbN b0 b1 b2 (j + 1) →
          N [some (.tup (r.map .int)), some (.tup (ws.map .int)), some (.int i), some (.tup [.int u, .int v]), some (.ref p), some (.tup [.int i, .tup [.int u, .int v]]), some (.int z), x7, x8] (put L p (.dct kvs2)) := fun z x7 x8 kvs2 m e => by
        subst e
        exact hN _ _ ⟨_, _, kvs2, rfl, m, rfl⟩
      match j, ej, fin with
      | 0, ej, fin =>
        cases ej
        simp only [aSeq, aAsg, Tg.A, aVar, aC, aOp, aCons, aNil, aCall, aTup, aLst, aLstM, aFrz, aRet, aIfS, aNext, aDrop, aNever, aB, aAnd, aOr, aNot, aAndV, aOrV, aNotV, aIf, aCh, aNeg, aIsN, isN, oI0, oI, oEq, oIn, oIx, oAdd, oDIn, oDGet, oSub, oMod, oFdiv, oPow, oMul, oLt, oLe, oGt, oGe, pLe, pLt, see, items, cLen, cAll, cAny, cSorted, cSortedM, cSum, cMax, cMax2, cMin2, cList, cListM, cTuple, aIsi, aTupRg, aLstRg, oNone, oSome, aSl, aRev, aRevM, aBM, mAppend, mPopAt, mInsert, aDNew, aSetI, aSetD, aPar3, aAsgU, aLenSetS, aTabS, oIsB, mIndex, cMinT, aFor, aWhile, iSeq, seqOf, iRg1, iRg2, iZip, iEnum, aYes, aLc, aLcM, aPar, wipeD, setAll, tyD, eq_self, true_implies, false_implies, implies_true, and_true, true_and, ne_eq, not_false_eq_true, reduceCtorEq, Bool.not_true, Bool.not_false, ix30, ix32, at30, at31, at32, isiD_ii, isiD_bi, isiD_tt, isiD_ll, isiD_il, isiD_bl2, isiD_it, isiD_bt, isiD_st, isiD_sl, isiD_lt, isiD_si, isiD_li, isiD_bb, eqD_int, okD_i, List.set_cons_zero, List.set_cons_succ, List.getElem?_cons_zero, List.getElem?_cons_succ, List.length_cons, List.length_nil, List.map_cons, List.map_nil, Option.bind_some, put_same, Bool.xor_false, Bool.false_xor, hat]
        refine ⟨u, v, c, false, rfl, ?_⟩
        by_cases hlt : c < v
        · rw [if_pos hlt] at hb1
          have hnx : nextD u v c false = .tup [.int u, .int c] := by simp [nextD, hlt]
          rw [hnx]
          simp only [aSeq, aAsg, Tg.A, aVar, aC, aOp, aCons, aNil, aCall, aTup, aLst, aLstM, aFrz, aRet, aIfS, aNext, aDrop, aNever, aB, aAnd, aOr, aNot, aAndV, aOrV, aNotV, aIf, aCh, aNeg, aIsN, isN, oI0, oI, oEq, oIn, oIx, oAdd, oDIn, oDGet, oSub, oMod, oFdiv, oPow, oMul, oLt, oLe, oGt, oGe, pLe, pLt, see, items, cLen, cAll, cAny, cSorted, cSortedM, cSum, cMax, cMax2, cMin2, cList, cListM, cTuple, aIsi, aTupRg, aLstRg, oNone, oSome, aSl, aRev, aRevM, aBM, mAppend, mPopAt, mInsert, aDNew, aSetI, aSetD, aPar3, aAsgU, aLenSetS, aTabS, oIsB, mIndex, cMinT, aFor, aWhile, iSeq, seqOf, iRg1, iRg2, iZip, iEnum, aYes, aLc, aLcM, aPar, wipeD, setAll, tyD, eq_self, true_implies, false_implies, implies_true, and_true, true_and, ne_eq, not_false_eq_true, reduceCtorEq, Bool.not_true, Bool.not_false, ix30, ix32, at30, at31, at32, isiD_ii, isiD_bi, isiD_tt, isiD_ll, isiD_il, isiD_bl2, isiD_it, isiD_bt, isiD_st, isiD_sl, isiD_lt, isiD_si, isiD_li, isiD_bb, eqD_int, okD_i, List.set_cons_zero, List.set_cons_succ, List.getElem?_cons_zero, List.getElem?_cons_succ, List.length_cons, List.length_nil, List.map_cons, List.map_nil, Option.bind_some, put_same, Bool.xor_false, Bool.false_xor, haw]
          refine ⟨r, ws, i + 1, u, c, p, kvs', by simp, put_same, m', hws, hr, by omega, by omega, hu, by simp [hcr], fun kvs2 m2 => ?_⟩
          rw [put_put]
          refine fin _ _ _ kvs2 m2 ?_
          show _ = b1
          show (if _ > b0 then _ else b0) = b1
          split <;> omega
        · rw [if_neg hlt] at hb1
          have hnx : nextD u v c false = .non := by simp [nextD, hlt]
          rw [hnx]
          simp only [aSeq, aAsg, Tg.A, aVar, aC, aOp, aCons, aNil, aCall, aTup, aLst, aLstM, aFrz, aRet, aIfS, aNext, aDrop, aNever, aB, aAnd, aOr, aNot, aAndV, aOrV, aNotV, aIf, aCh, aNeg, aIsN, isN, oI0, oI, oEq, oIn, oIx, oAdd, oDIn, oDGet, oSub, oMod, oFdiv, oPow, oMul, oLt, oLe, oGt, oGe, pLe, pLt, see, items, cLen, cAll, cAny, cSorted, cSortedM, cSum, cMax, cMax2, cMin2, cList, cListM, cTuple, aIsi, aTupRg, aLstRg, oNone, oSome, aSl, aRev, aRevM, aBM, mAppend, mPopAt, mInsert, aDNew, aSetI, aSetD, aPar3, aAsgU, aLenSetS, aTabS, oIsB, mIndex, cMinT, aFor, aWhile, iSeq, seqOf, iRg1, iRg2, iZip, iEnum, aYes, aLc, aLcM, aPar, wipeD, setAll, tyD, eq_self, true_implies, false_implies, implies_true, and_true, true_and, ne_eq, not_false_eq_true, reduceCtorEq, Bool.not_true, Bool.not_false, ix30, ix32, at30, at31, at32, isiD_ii, isiD_bi, isiD_tt, isiD_ll, isiD_il, isiD_bl2, isiD_it, isiD_bt, isiD_st, isiD_sl, isiD_lt, isiD_si, isiD_li, isiD_bb, eqD_int, okD_i, List.set_cons_zero, List.set_cons_succ, List.getElem?_cons_zero, List.getElem?_cons_succ, List.length_cons, List.length_nil, List.map_cons, List.map_nil, Option.bind_some, put_same, Bool.xor_false, Bool.false_xor]
          refine ⟨fun a => (nomatch a), fun _ => ?_⟩
          refine fin _ _ _ kvs' m' ?_
          show b0 = b1
          omega
      | 1, ej, fin =>
        cases ej
        simp only [aSeq, aAsg, Tg.A, aVar, aC, aOp, aCons, aNil, aCall, aTup, aLst, aLstM, aFrz, aRet, aIfS, aNext, aDrop, aNever, aB, aAnd, aOr, aNot, aAndV, aOrV, aNotV, aIf, aCh, aNeg, aIsN, isN, oI0, oI, oEq, oIn, oIx, oAdd, oDIn, oDGet, oSub, oMod, oFdiv, oPow, oMul, oLt, oLe, oGt, oGe, pLe, pLt, see, items, cLen, cAll, cAny, cSorted, cSortedM, cSum, cMax, cMax2, cMin2, cList, cListM, cTuple, aIsi, aTupRg, aLstRg, oNone, oSome, aSl, aRev, aRevM, aBM, mAppend, mPopAt, mInsert, aDNew, aSetI, aSetD, aPar3, aAsgU, aLenSetS, aTabS, oIsB, mIndex, cMinT, aFor, aWhile, iSeq, seqOf, iRg1, iRg2, iZip, iEnum, aYes, aLc, aLcM, aPar, wipeD, setAll, tyD, eq_self, true_implies, false_implies, implies_true, and_true, true_and, ne_eq, not_false_eq_true, reduceCtorEq, Bool.not_true, Bool.not_false, ix30, ix32, at30, at31, at32, isiD_ii, isiD_bi, isiD_tt, isiD_ll, isiD_il, isiD_bl2, isiD_it, isiD_bt, isiD_st, isiD_sl, isiD_lt, isiD_si, isiD_li, isiD_bb, eqD_int, okD_i, List.set_cons_zero, List.set_cons_succ, List.getElem?_cons_zero, List.getElem?_cons_succ, List.length_cons, List.length_nil, List.map_cons, List.map_nil, Option.bind_some, put_same, Bool.xor_false, Bool.false_xor, hat]
        refine ⟨u, v, c, true, rfl, ?_⟩
        by_cases hlt : u < c
        · rw [if_pos hlt] at hb2
          have hnx : nextD u v c true = .tup [.int c, .int v] := by simp [nextD, hlt]
          rw [hnx]
          simp only [aSeq, aAsg, Tg.A, aVar, aC, aOp, aCons, aNil, aCall, aTup, aLst, aLstM, aFrz, aRet, aIfS, aNext, aDrop, aNever, aB, aAnd, aOr, aNot, aAndV, aOrV, aNotV, aIf, aCh, aNeg, aIsN, isN, oI0, oI, oEq, oIn, oIx, oAdd, oDIn, oDGet, oSub, oMod, oFdiv, oPow, oMul, oLt, oLe, oGt, oGe, pLe, pLt, see, items, cLen, cAll, cAny, cSorted, cSortedM, cSum, cMax, cMax2, cMin2, cList, cListM, cTuple, aIsi, aTupRg, aLstRg, oNone, oSome, aSl, aRev, aRevM, aBM, mAppend, mPopAt, mInsert, aDNew, aSetI, aSetD, aPar3, aAsgU, aLenSetS, aTabS, oIsB, mIndex, cMinT, aFor, aWhile, iSeq, seqOf, iRg1, iRg2, iZip, iEnum, aYes, aLc, aLcM, aPar, wipeD, setAll, tyD, eq_self, true_implies, false_implies, implies_true, and_true, true_and, ne_eq, not_false_eq_true, reduceCtorEq, Bool.not_true, Bool.not_false, ix30, ix32, at30, at31, at32, isiD_ii, isiD_bi, isiD_tt, isiD_ll, isiD_il, isiD_bl2, isiD_it, isiD_bt, isiD_st, isiD_sl, isiD_lt, isiD_si, isiD_li, isiD_bb, eqD_int, okD_i, List.set_cons_zero, List.set_cons_succ, List.getElem?_cons_zero, List.getElem?_cons_succ, List.length_cons, List.length_nil, List.map_cons, List.map_nil, Option.bind_some, put_same, Bool.xor_false, Bool.false_xor, haw]
          refine ⟨r, ws, i + 1, c, v, p, kvs', by simp, put_same, m', hws, hr, by omega, by omega, by simp [hcr], hv, fun kvs2 m2 => ?_⟩
          rw [put_put]
          refine fin _ _ _ kvs2 m2 ?_
          show _ = b2
          show (if _ > b1 then _ else b1) = b2
          split <;> omega
        · rw [if_neg hlt] at hb2
          have hnx : nextD u v c true = .non := by simp [nextD, hlt]
          rw [hnx]
          simp only [aSeq, aAsg, Tg.A, aVar, aC, aOp, aCons, aNil, aCall, aTup, aLst, aLstM, aFrz, aRet, aIfS, aNext, aDrop, aNever, aB, aAnd, aOr, aNot, aAndV, aOrV, aNotV, aIf, aCh, aNeg, aIsN, isN, oI0, oI, oEq, oIn, oIx, oAdd, oDIn, oDGet, oSub, oMod, oFdiv, oPow, oMul, oLt, oLe, oGt, oGe, pLe, pLt, see, items, cLen, cAll, cAny, cSorted, cSortedM, cSum, cMax, cMax2, cMin2, cList, cListM, cTuple, aIsi, aTupRg, aLstRg, oNone, oSome, aSl, aRev, aRevM, aBM, mAppend, mPopAt, mInsert, aDNew, aSetI, aSetD, aPar3, aAsgU, aLenSetS, aTabS, oIsB, mIndex, cMinT, aFor, aWhile, iSeq, seqOf, iRg1, iRg2, iZip, iEnum, aYes, aLc, aLcM, aPar, wipeD, setAll, tyD, eq_self, true_implies, false_implies, implies_true, and_true, true_and, ne_eq, not_false_eq_true, reduceCtorEq, Bool.not_true, Bool.not_false, ix30, ix32, at30, at31, at32, isiD_ii, isiD_bi, isiD_tt, isiD_ll, isiD_il, isiD_bl2, isiD_it, isiD_bt, isiD_st, isiD_sl, isiD_lt, isiD_si, isiD_li, isiD_bb, eqD_int, okD_i, List.set_cons_zero, List.set_cons_succ, List.getElem?_cons_zero, List.getElem?_cons_succ, List.length_cons, List.length_nil, List.map_cons, List.map_nil, Option.bind_some, put_same, Bool.xor_false, Bool.false_xor]
          refine ⟨fun a => (nomatch a), fun _ => ?_⟩
          refine fin _ _ _ kvs' m' ?_
          show b1 = b2
          omega
      | j + 2, ej, fin => simp at ej
    · obtain ⟨x7, x8, kvs', rfl, m', rfl⟩ := I
      simp only [aSeq, aAsg, Tg.A, aVar, aC, aOp, aCons, aNil, aCall, aTup, aLst, aLstM, aFrz, aRet, aIfS, aNext, aDrop, aNever, aB, aAnd, aOr, aNot, aAndV, aOrV, aNotV, aIf, aCh, aNeg, aIsN, isN, oI0, oI, oEq, oIn, oIx, oAdd, oDIn, oDGet, oSub, oMod, oFdiv, oPow, oMul, oLt, oLe, oGt, oGe, pLe, pLt, see, items, cLen, cAll, cAny, cSorted, cSortedM, cSum, cMax, cMax2, cMin2, cList, cListM, cTuple, aIsi, aTupRg, aLstRg, oNone, oSome, aSl, aRev, aRevM, aBM, mAppend, mPopAt, mInsert, aDNew, aSetI, aSetD, aPar3, aAsgU, aLenSetS, aTabS, oIsB, mIndex, cMinT, aFor, aWhile, iSeq, seqOf, iRg1, iRg2, iZip, iEnum, aYes, aLc, aLcM, aPar, wipeD, setAll, tyD, eq_self, true_implies, false_implies, implies_true, and_true, true_and, ne_eq, not_false_eq_true, reduceCtorEq, Bool.not_true, Bool.not_false, ix30, ix32, at30, at31, at32, isiD_ii, isiD_bi, isiD_tt, isiD_ll, isiD_il, isiD_bl2, isiD_it, isiD_bt, isiD_st, isiD_sl, isiD_lt, isiD_si, isiD_li, isiD_bb, eqD_int, okD_i, List.set_cons_zero, List.set_cons_succ, List.getElem?_cons_zero, List.getElem?_cons_succ, List.length_cons, List.length_nil, List.map_cons, List.map_nil, Option.bind_some, put_same, Bool.xor_false, Bool.false_xor, put_same, hk]
      have eb : bbN b0 b1 b2 (0 + 1 + 1) = best (r.drop i) (ws.drop i) u v := hb.symm
      rw [eb]
      have m2 := m'.put hi hu hv
      have hget : dget (dput kvs' (.tup [.num i, .tup [.num u, .num v]]) (.int (best (r.drop i) (ws.drop i) u v))) (.tup [.num i, .tup [.num u, .num v]]) = some (.int (best (r.drop i) (ws.drop i) u v)) := dget_dput _ _ _
      refine ⟨hd, m'.few hr, hd, ?_⟩
      rw [hget]
      rw [put_put]
      exact Rt.same (h _ m2)
  · have hs : (dget kvs (gKey i u v)).isSome = true := by simpa [gKey] using e3
    obtain ⟨d, hd2⟩ := Option.isSome_iff_exists.mp hs
    have := hm.get hd2
    subst this
    have hd3 : dget kvs (.tup [.num i, .tup [.num u, .num v]]) = some (.int (best (r.drop i) (ws.drop i) u v)) := hd2
    refine ⟨hd, ?_⟩
    rw [hd3]
    have := h kvs hm
    rw [put_self hp] at this
    exact Rt.same this
/-! stays -/
abbrev N_stays : List Str := ["row", "worths", "at", "lasts", "known", "found", "last", "side", "there", "own"]
def kP (x : Int × Int) : NestedKey := .tup [.num x.1, .num x.2]
def FK (ks : List (Int × Int)) : List (NestedKey × D) := ks.map fun x => (kP x, D.bl true)
def addU (x : Int × Int) (ks : List (Int × Int)) : List (Int × Int) := if x ∈ ks then ks else ks ++ [x]
theorem kP_inj {x y : Int × Int} (h : kP x = kP y) : x = y := by
  unfold kP at h
  injection h with e
  injection e with e1 e2
  injection e1 with e3
  injection e2 with e4 _
  injection e4 with e5
  exact Prod.ext e3 e5
theorem FK_get {ks : List (Int × Int)} {x : Int × Int} : (dget (FK ks) (kP x)).isSome = decide (x ∈ ks) := by
  cases h : dget (FK ks) (kP x) with
  | none =>
    have hn := dget_none h
    have : x ∉ ks := fun z => hn (.bl true) (List.mem_map.mpr ⟨x, z, rfl⟩)
    simp [this]
  | some d =>
    obtain ⟨y, hy, e⟩ := List.mem_map.mp (dget_mem h)
    injection e with e1 _
    have : x ∈ ks := by rw [← kP_inj e1]; exact hy
    simp [this]
theorem FK_put (ks : List (Int × Int)) (x : Int × Int) : dput (FK ks) (kP x) (.bl true) = FK (addU x ks) := by
  unfold dput addU
  rw [FK_get]
  by_cases hx : x ∈ ks
  · rw [if_pos (by simpa using hx), if_pos hx]
    unfold FK
    rw [List.map_map]
    refine List.map_congr_left fun y _ => ?_
    show (if kP y = kP x then (kP y, D.bl true) else (kP y, D.bl true)) = _
    split <;> rfl
  · rw [if_neg (by simpa using hx), if_neg hx]
    unfold FK
    rw [List.map_append]
    rfl
theorem FK_keys (ks : List (Int × Int)) : (FK ks).map (fun x => keyD x.1) = ks.map pD := by
  unfold FK
  rw [List.map_map]
  rfl
theorem addU_nd {x : Int × Int} {ks : List (Int × Int)} (h : ks.Nodup) : (addU x ks).Nodup := by
  unfold addU
  split
  · exact h
  · rename_i hx
    rw [List.nodup_append]
    exact ⟨h, by simp, fun a ha b hb e => hx (by rw [List.mem_singleton] at hb; rw [← hb, ← e]; exact ha)⟩
theorem mem_addU {x y : Int × Int} {ks : List (Int × Int)} : y ∈ addU x ks ↔ y ∈ ks ∨ y = x := by
  unfold addU
  split
  · rename_i hx
    exact ⟨.inl, fun h => h.elim id fun e => by rw [e]; exact hx⟩
  · simp
def nxt (q : Int × Int) (c : Int) (up : Bool) : Option (Int × Int) := if up then (if q.1 < c then some (c, q.2) else none) else if c < q.2 then some (q.1, c) else none
theorem nextD_nxt (q : Int × Int) (c : Int) (up : Bool) : nextD q.1 q.2 c up = match nxt q c up with | some x => pD x | none => .non := by
  unfold nextD nxt
  cases up
  · simp only [Bool.false_eq_true, if_false]
    by_cases h : c < q.2
    · rw [if_pos h, if_pos h]; rfl
    · rw [if_neg h, if_neg h]
  · simp only [if_true]
    by_cases h : q.1 < c
    · rw [if_pos h, if_pos h]; rfl
    · rw [if_neg h, if_neg h]
theorem nxt_stp {q x : Int × Int} {c : Int} : stp c q x ↔ nxt q c false = some x ∨ nxt q c true = some x := by
  unfold stp nxt
  simp only [Bool.false_eq_true, if_false, if_true]
  constructor
  · rintro (⟨h, rfl⟩ | ⟨h, rfl⟩)
    · right; rw [if_pos h]
    · left; rw [if_pos h]
  · rintro (h | h)
    · split at h
      · rename_i k; cases h; exact .inr ⟨k, rfl⟩
      · cases h
    · split at h
      · rename_i k; cases h; exact .inl ⟨k, rfl⟩
      · cases h
theorem nxt_in {r : List Int} {q x : Int × Int} {c : Int} {up : Bool} (h : nxt q c up = some x) (hc : c ∈ r) (hq : q.1 ∈ -1 :: r ∧ q.2 ∈ 1000000001 :: r) : x.1 ∈ -1 :: r ∧ x.2 ∈ 1000000001 :: r := by
  unfold nxt at h
  cases up
  · simp only [Bool.false_eq_true, if_false] at h
    split at h
    · cases h; exact ⟨hq.1, List.mem_cons_of_mem _ hc⟩
    · cases h
  · simp only [if_true] at h
    split at h
    · cases h; exact ⟨List.mem_cons_of_mem _ hc, hq.2⟩
    · cases h
def A_stays : ASp := fun ds L K => ∃ (r ws : List Int) (i : Nat) (c w : Int) (l : List (Int × Int)) (p : Addr) (kvs : List (NestedKey × D)), ds = [.tup (r.map .int), .tup (ws.map .int), .int i, .lst (l.map pD), .ref p] ∧ L p = some (.dct kvs) ∧ MemoB r ws kvs ∧ ws.length = r.length ∧ r.length ≤ 40 ∧
  r[i]? = some c ∧ ws[i]? = some w ∧ LastsIn (-1 :: r) (1000000001 :: r) l ∧
  ∀ (kvs' : List (NestedKey × D)) (l' : List (Int × Int)), MemoB r ws kvs' → l'.Nodup → LastsIn (-1 :: r) (1000000001 :: r) l' →
    (∀ x, x ∈ l' ↔ ∃ q ∈ l, stp c q x ∧ w + best (r.drop (i + 1)) (ws.drop (i + 1)) x.1 x.2 = best (r.drop i) (ws.drop i) q.1 q.2) → K (.lst (l'.map pD)) (put L p (.dct kvs'))
def t_stays : ATS :=
  (aSeq (aAsg aDNew (.one 5))
  (aSeq (aFor (iSeq (aVar 3)) (.one 6) (aFor (iSeq (aTup (aCons (aC (.str "down")) (aCons (aC (.str "up")) aNil)))) (.one 7) (aSeq (aAsg (aCall A_next_last (aCons (aVar 6) (aCons (aOp oIx (aVar 0) (aVar 2)) (aCons (aVar 7) aNil)))) (.one 8))
  (aIfS (aB (aIsN true (aVar 8))) (aSeq (aAsg (aOp oAdd (aOp oIx (aVar 1) (aVar 2)) (aCall A_most_from (aCons (aVar 0) (aCons (aVar 1) (aCons (aOp oAdd (aVar 2) (aC (.int 1))) (aCons (aVar 8) (aCons (aVar 4) aNil))))))) (.one 9))
  (aIfS (aB (aOp (oEq false) (aVar 9) (aCall A_most_from (aCons (aVar 0) (aCons (aVar 1) (aCons (aVar 2) (aCons (aVar 6) (aCons (aVar 4) aNil)))))))) (aSetD (aC (.bl true)) (aVar 5) (aVar 8)) aNext)) aNext))))
  (aRet (aCall cListD (aCons (aVar 5) aNil)))))
theorem r_stays {ds : List D} {L : Lg} {Kk : AK} (h : A_stays ds L Kk) : t_stays { nx := fun _ L' => Rt Kk .non L', rt := Rt Kk } (startD N_stays ds) L := by
  obtain ⟨r, ws, i, c, w, l, p, kvs, rfl, hp, hm, hws, hr, hc, hw, hl, h⟩ := h
  show t_stays _ [some (.tup (r.map .int)), some (.tup (ws.map .int)), some (.int i), some (.lst (l.map pD)), some (.ref p), none, none, none, none, none] L
  unfold t_stays
  have hi : i < r.length := (List.getElem?_eq_some_iff.mp hc).1
  have hat : atI (r.map D.int) (i : Int) = some (.int c) := atI_nat (by rw [List.getElem?_map, hc]; rfl)
  have haw : atI (ws.map D.int) (i : Int) = some (.int w) := atI_nat (by rw [List.getElem?_map, hw]; rfl)
  have hcr : c ∈ r := List.mem_of_getElem? hc
  simp only [aSeq, aAsg, Tg.A, aVar, aC, aOp, aCons, aNil, aCall, aTup, aLst, aLstM, aFrz, aRet, aIfS, aNext, aDrop, aNever, aB, aAnd, aOr, aNot, aAndV, aOrV, aNotV, aIf, aCh, aNeg, aIsN, isN, oI0, oI, oEq, oIn, oIx, oAdd, oDIn, oDGet, oSub, oMod, oFdiv, oPow, oMul, oLt, oLe, oGt, oGe, pLe, pLt, see, items, cLen, cAll, cAny, cSorted, cSortedM, cSum, cMax, cMax2, cMin2, cList, cListM, cTuple, aIsi, aTupRg, aLstRg, oNone, oSome, aSl, aRev, aRevM, aBM, mAppend, mPopAt, mInsert, aDNew, aSetI, aSetD, aPar3, aAsgU, aLenSetS, aTabS, oIsB, mIndex, cMinT, aFor, aWhile, iSeq, seqOf, iRg1, iRg2, iZip, iEnum, aYes, aLc, aLcM, aPar, wipeD, setAll, tyD, eq_self, true_implies, false_implies, implies_true, and_true, true_and, ne_eq, not_false_eq_true, reduceCtorEq, Bool.not_true, Bool.not_false, ix30, ix32, at30, at31, at32, isiD_ii, isiD_bi, isiD_tt, isiD_ll, isiD_il, isiD_bl2, isiD_it, isiD_bt, isiD_st, isiD_sl, isiD_lt, isiD_si, isiD_li, isiD_bb, eqD_int, okD_i, List.set_cons_zero, List.set_cons_succ, List.getElem?_cons_zero, List.getElem?_cons_succ, List.length_cons, List.length_nil, List.map_cons, List.map_nil, Option.bind_some, put_same, Bool.xor_false, Bool.false_xor]
  intro f hf
  have hfp : p ≠ f := fun e => by rw [e, hf] at hp; cases hp
  let G : Int × Int → Bool → Int × Int → Prop := fun q up x => nxt q c up = some x ∧ w + best (r.drop (i + 1)) (ws.drop (i + 1)) x.1 x.2 = best (r.drop i) (ws.drop i) q.1 q.2
  let GG : Int × Int → Int × Int → Prop := fun q x => G q false x ∨ G q true x
  refine forA_ind (fun j Δ L' => ∃ (x6 x7 x8 x9 : Option D) (kvs' : List (NestedKey × D)) (ks : List (Int × Int)), Δ = [some (.tup (r.map .int)), some (.tup (ws.map .int)), some (.int i), some (.lst (l.map pD)), some (.ref p), some (.ref f), x6, x7, x8, x9] ∧ MemoB r ws kvs' ∧ L' p = some (.dct kvs') ∧ L' f = some (.dct (FK ks)) ∧ (∀ a, a ≠ p → a ≠ f → L' a = L a) ∧
    ks.Nodup ∧ LastsIn (-1 :: r) (1000000001 :: r) ks ∧ ∀ x, x ∈ ks ↔ ∃ q ∈ l.take j, GG q x) (fun _ _ _ _ => trivial) (fun j d Δ L' N ej I hN => ?_) (fun Δ L' I => ?_) ?_
  · obtain ⟨x6, x7, x8, x9, kvs', ks, rfl, m', e1, e2, e3, e4, e5, e6⟩ := I
    rw [List.getElem?_map] at ej
    obtain ⟨q, hq, rfl⟩ := Option.map_eq_some_iff.mp ej
    have hql := hl q (List.mem_of_getElem? hq)
    have ht : l.take (j + 1) = l.take j ++ [q] := by rw [List.take_add_one, hq]; rfl
    simp only [aSeq, aAsg, Tg.A, aVar, aC, aOp, aCons, aNil, aCall, aTup, aLst, aLstM, aFrz, aRet, aIfS, aNext, aDrop, aNever, aB, aAnd, aOr, aNot, aAndV, aOrV, aNotV, aIf, aCh, aNeg, aIsN, isN, oI0, oI, oEq, oIn, oIx, oAdd, oDIn, oDGet, oSub, oMod, oFdiv, oPow, oMul, oLt, oLe, oGt, oGe, pLe, pLt, see, items, cLen, cAll, cAny, cSorted, cSortedM, cSum, cMax, cMax2, cMin2, cList, cListM, cTuple, aIsi, aTupRg, aLstRg, oNone, oSome, aSl, aRev, aRevM, aBM, mAppend, mPopAt, mInsert, aDNew, aSetI, aSetD, aPar3, aAsgU, aLenSetS, aTabS, oIsB, mIndex, cMinT, aFor, aWhile, iSeq, seqOf, iRg1, iRg2, iZip, iEnum, aYes, aLc, aLcM, aPar, wipeD, setAll, tyD, eq_self, true_implies, false_implies, implies_true, and_true, true_and, ne_eq, not_false_eq_true, reduceCtorEq, Bool.not_true, Bool.not_false, ix30, ix32, at30, at31, at32, isiD_ii, isiD_bi, isiD_tt, isiD_ll, isiD_il, isiD_bl2, isiD_it, isiD_bt, isiD_st, isiD_sl, isiD_lt, isiD_si, isiD_li, isiD_bb, eqD_int, okD_i, List.set_cons_zero, List.set_cons_succ, List.getElem?_cons_zero, List.getElem?_cons_succ, List.length_cons, List.length_nil, List.map_cons, List.map_nil, Option.bind_some, put_same, Bool.xor_false, Bool.false_xor]
    refine ⟨by decide, ?_⟩
    refine forA_ind (fun m Δ L2 => ∃ (x7 x8 x9 : Option D) (kvs' : List (NestedKey × D)) (ks : List (Int × Int)), Δ = [some (.tup (r.map .int)), some (.tup (ws.map .int)), some (.int i), some (.lst (l.map pD)), some (.ref p), some (.ref f), some (pD q), x7, x8, x9] ∧ MemoB r ws kvs' ∧ L2 p = some (.dct kvs') ∧ L2 f = some (.dct (FK ks)) ∧ (∀ a, a ≠ p → a ≠ f → L2 a = L a) ∧
      ks.Nodup ∧ LastsIn (-1 :: r) (1000000001 :: r) ks ∧ ∀ x, x ∈ ks ↔ (∃ q ∈ l.take j, GG q x) ∨ (1 ≤ m ∧ G q false x) ∨ (2 ≤ m ∧ G q true x)) (fun _ _ _ _ => trivial) (fun m d Δ L2 N2 em I2 hN2 => ?_) (fun Δ L2 I2 => ?_) ⟨_, _, _, kvs', ks, rfl, m', e1, e2, e3, e4, e5, fun x => by rw [e6]; exact ⟨.inl, fun z => z.elim id fun z => z.elim (fun z => by omega) fun z => by omega⟩⟩
    · obtain ⟨x7, x8, x9, kvs', ks, rfl, m', e1, e2, e3, e4, e5, e6⟩ := I2
      have hup : ∃ up : Bool, d = .str (if up then "up" else "down") ∧ m = (if up then 1 else 0) := by
        match m, em with
        | 0, em => cases em; exact ⟨false, rfl, rfl⟩
        | 1, em => cases em; exact ⟨true, rfl, rfl⟩
        | m + 2, em => simp at em
      obtain ⟨up, rfl, hmu⟩ := hup
      have gstep : ∀ (ks2 : List (Int × Int)) , (∀ x, x ∈ ks2 ↔ x ∈ ks ∨ G q up x) → ∀ x, x ∈ ks2 ↔ (∃ q ∈ l.take j, GG q x) ∨ (1 ≤ m + 1 ∧ G q false x) ∨ (2 ≤ m + 1 ∧ G q true x) := fun ks2 hk x => by
        rw [hk, e6]
        cases up
        · have : m = 0 := hmu
          subst this
          constructor
          · rintro ((a | a | a) | a)
            · exact .inl a
            · omega
            · omega
            · exact .inr (.inl ⟨by omega, a⟩)
          · rintro (a | a | a)
            · exact .inl (.inl a)
            · exact .inr a.2
            · omega
        · have : m = 1 := hmu
          subst this
          constructor
          · rintro ((a | a | a) | a)
            · exact .inl a
            · exact .inr (.inl ⟨by omega, a.2⟩)
            · omega
            · exact .inr (.inr ⟨by omega, a⟩)
          · rintro (a | a | a)
            · exact .inl (.inl a)
            · exact .inl (.inr (.inl ⟨by omega, a.2⟩))
            · exact .inr a.2
      simp only [aSeq, aAsg, Tg.A, aVar, aC, aOp, aCons, aNil, aCall, aTup, aLst, aLstM, aFrz, aRet, aIfS, aNext, aDrop, aNever, aB, aAnd, aOr, aNot, aAndV, aOrV, aNotV, aIf, aCh, aNeg, aIsN, isN, oI0, oI, oEq, oIn, oIx, oAdd, oDIn, oDGet, oSub, oMod, oFdiv, oPow, oMul, oLt, oLe, oGt, oGe, pLe, pLt, see, items, cLen, cAll, cAny, cSorted, cSortedM, cSum, cMax, cMax2, cMin2, cList, cListM, cTuple, aIsi, aTupRg, aLstRg, oNone, oSome, aSl, aRev, aRevM, aBM, mAppend, mPopAt, mInsert, aDNew, aSetI, aSetD, aPar3, aAsgU, aLenSetS, aTabS, oIsB, mIndex, cMinT, aFor, aWhile, iSeq, seqOf, iRg1, iRg2, iZip, iEnum, aYes, aLc, aLcM, aPar, wipeD, setAll, tyD, eq_self, true_implies, false_implies, implies_true, and_true, true_and, ne_eq, not_false_eq_true, reduceCtorEq, Bool.not_true, Bool.not_false, ix30, ix32, at30, at31, at32, isiD_ii, isiD_bi, isiD_tt, isiD_ll, isiD_il, isiD_bl2, isiD_it, isiD_bt, isiD_st, isiD_sl, isiD_lt, isiD_si, isiD_li, isiD_bb, eqD_int, okD_i, List.set_cons_zero, List.set_cons_succ, List.getElem?_cons_zero, List.getElem?_cons_succ, List.length_cons, List.length_nil, List.map_cons, List.map_nil, Option.bind_some, put_same, Bool.xor_false, Bool.false_xor, hat, A_next_last]
      refine ⟨q.1, q.2, c, up, rfl, ?_⟩
      rw [nextD_nxt]
      cases hx : nxt q c up with
      | none =>
        simp only [aSeq, aAsg, Tg.A, aVar, aC, aOp, aCons, aNil, aCall, aTup, aLst, aLstM, aFrz, aRet, aIfS, aNext, aDrop, aNever, aB, aAnd, aOr, aNot, aAndV, aOrV, aNotV, aIf, aCh, aNeg, aIsN, isN, oI0, oI, oEq, oIn, oIx, oAdd, oDIn, oDGet, oSub, oMod, oFdiv, oPow, oMul, oLt, oLe, oGt, oGe, pLe, pLt, see, items, cLen, cAll, cAny, cSorted, cSortedM, cSum, cMax, cMax2, cMin2, cList, cListM, cTuple, aIsi, aTupRg, aLstRg, oNone, oSome, aSl, aRev, aRevM, aBM, mAppend, mPopAt, mInsert, aDNew, aSetI, aSetD, aPar3, aAsgU, aLenSetS, aTabS, oIsB, mIndex, cMinT, aFor, aWhile, iSeq, seqOf, iRg1, iRg2, iZip, iEnum, aYes, aLc, aLcM, aPar, wipeD, setAll, tyD, eq_self, true_implies, false_implies, implies_true, and_true, true_and, ne_eq, not_false_eq_true, reduceCtorEq, Bool.not_true, Bool.not_false, ix30, ix32, at30, at31, at32, isiD_ii, isiD_bi, isiD_tt, isiD_ll, isiD_il, isiD_bl2, isiD_it, isiD_bt, isiD_st, isiD_sl, isiD_lt, isiD_si, isiD_li, isiD_bb, eqD_int, okD_i, List.set_cons_zero, List.set_cons_succ, List.getElem?_cons_zero, List.getElem?_cons_succ, List.length_cons, List.length_nil, List.map_cons, List.map_nil, Option.bind_some, put_same, Bool.xor_false, Bool.false_xor]
        refine ⟨fun a => (nomatch a), fun _ => hN2 _ _ ⟨_, _, _, kvs', ks, rfl, m', e1, e2, e3, e4, e5, gstep ks fun x => ⟨.inl, fun z => z.elim id fun z => by rw [z.1] at hx; cases hx⟩⟩⟩
      | some x =>
        have hxin := nxt_in hx hcr hql
        simp only [aSeq, aAsg, Tg.A, aVar, aC, aOp, aCons, aNil, aCall, aTup, aLst, aLstM, aFrz, aRet, aIfS, aNext, aDrop, aNever, aB, aAnd, aOr, aNot, aAndV, aOrV, aNotV, aIf, aCh, aNeg, aIsN, isN, oI0, oI, oEq, oIn, oIx, oAdd, oDIn, oDGet, oSub, oMod, oFdiv, oPow, oMul, oLt, oLe, oGt, oGe, pLe, pLt, see, items, cLen, cAll, cAny, cSorted, cSortedM, cSum, cMax, cMax2, cMin2, cList, cListM, cTuple, aIsi, aTupRg, aLstRg, oNone, oSome, aSl, aRev, aRevM, aBM, mAppend, mPopAt, mInsert, aDNew, aSetI, aSetD, aPar3, aAsgU, aLenSetS, aTabS, oIsB, mIndex, cMinT, aFor, aWhile, iSeq, seqOf, iRg1, iRg2, iZip, iEnum, aYes, aLc, aLcM, aPar, wipeD, setAll, tyD, eq_self, true_implies, false_implies, implies_true, and_true, true_and, ne_eq, not_false_eq_true, reduceCtorEq, Bool.not_true, Bool.not_false, ix30, ix32, at30, at31, at32, isiD_ii, isiD_bi, isiD_tt, isiD_ll, isiD_il, isiD_bl2, isiD_it, isiD_bt, isiD_st, isiD_sl, isiD_lt, isiD_si, isiD_li, isiD_bb, eqD_int, okD_i, List.set_cons_zero, List.set_cons_succ, List.getElem?_cons_zero, List.getElem?_cons_succ, List.length_cons, List.length_nil, List.map_cons, List.map_nil, Option.bind_some, put_same, Bool.xor_false, Bool.false_xor, pD, haw]
        refine ⟨r, ws, i + 1, x.1, x.2, p, kvs', by simp, e1, m', hws, hr, by omega, by omega, hxin.1, hxin.2, fun kvs2 m2 => ?_⟩
        simp only [aSeq, aAsg, Tg.A, aVar, aC, aOp, aCons, aNil, aCall, aTup, aLst, aLstM, aFrz, aRet, aIfS, aNext, aDrop, aNever, aB, aAnd, aOr, aNot, aAndV, aOrV, aNotV, aIf, aCh, aNeg, aIsN, isN, oI0, oI, oEq, oIn, oIx, oAdd, oDIn, oDGet, oSub, oMod, oFdiv, oPow, oMul, oLt, oLe, oGt, oGe, pLe, pLt, see, items, cLen, cAll, cAny, cSorted, cSortedM, cSum, cMax, cMax2, cMin2, cList, cListM, cTuple, aIsi, aTupRg, aLstRg, oNone, oSome, aSl, aRev, aRevM, aBM, mAppend, mPopAt, mInsert, aDNew, aSetI, aSetD, aPar3, aAsgU, aLenSetS, aTabS, oIsB, mIndex, cMinT, aFor, aWhile, iSeq, seqOf, iRg1, iRg2, iZip, iEnum, aYes, aLc, aLcM, aPar, wipeD, setAll, tyD, eq_self, true_implies, false_implies, implies_true, and_true, true_and, ne_eq, not_false_eq_true, reduceCtorEq, Bool.not_true, Bool.not_false, ix30, ix32, at30, at31, at32, isiD_ii, isiD_bi, isiD_tt, isiD_ll, isiD_il, isiD_bl2, isiD_it, isiD_bt, isiD_st, isiD_sl, isiD_lt, isiD_si, isiD_li, isiD_bb, eqD_int, okD_i, List.set_cons_zero, List.set_cons_succ, List.getElem?_cons_zero, List.getElem?_cons_succ, List.length_cons, List.length_nil, List.map_cons, List.map_nil, Option.bind_some, put_same, Bool.xor_false, Bool.false_xor]
        refine ⟨r, ws, i, q.1, q.2, p, kvs2, rfl, put_same, m2, hws, hr, by omega, by omega, hql.1, hql.2, fun kvs3 m3 => ?_⟩
        rw [put_put]
        have hf3 : put L2 p (.dct kvs3) f = some (.dct (FK ks)) := by rw [put_ne (Ne.symm hfp)]; exact e2
        have hkx : keyOf (.tup [.int x.1, .int x.2]) = some (kP x) := rfl
        have hdx : (kP x).depth ≤ 8 := Nat.le_of_ble_eq_true rfl
        have hlen := lastsIn_len e5 e4
        rw [List.length_cons, List.length_cons] at hlen
        have hlen2 : (r.length + 1) * (r.length + 1) ≤ 41 * 41 := Nat.mul_le_mul (by omega) (by omega)
        have hfl : (FK ks).length = ks.length := List.length_map ..
        simp only [aSeq, aAsg, Tg.A, aVar, aC, aOp, aCons, aNil, aCall, aTup, aLst, aLstM, aFrz, aRet, aIfS, aNext, aDrop, aNever, aB, aAnd, aOr, aNot, aAndV, aOrV, aNotV, aIf, aCh, aNeg, aIsN, isN, oI0, oI, oEq, oIn, oIx, oAdd, oDIn, oDGet, oSub, oMod, oFdiv, oPow, oMul, oLt, oLe, oGt, oGe, pLe, pLt, see, items, cLen, cAll, cAny, cSorted, cSortedM, cSum, cMax, cMax2, cMin2, cList, cListM, cTuple, aIsi, aTupRg, aLstRg, oNone, oSome, aSl, aRev, aRevM, aBM, mAppend, mPopAt, mInsert, aDNew, aSetI, aSetD, aPar3, aAsgU, aLenSetS, aTabS, oIsB, mIndex, cMinT, aFor, aWhile, iSeq, seqOf, iRg1, iRg2, iZip, iEnum, aYes, aLc, aLcM, aPar, wipeD, setAll, tyD, eq_self, true_implies, false_implies, implies_true, and_true, true_and, ne_eq, not_false_eq_true, reduceCtorEq, Bool.not_true, Bool.not_false, ix30, ix32, at30, at31, at32, isiD_ii, isiD_bi, isiD_tt, isiD_ll, isiD_il, isiD_bl2, isiD_it, isiD_bt, isiD_st, isiD_sl, isiD_lt, isiD_si, isiD_li, isiD_bb, eqD_int, okD_i, List.set_cons_zero, List.set_cons_succ, List.getElem?_cons_zero, List.getElem?_cons_succ, List.length_cons, List.length_nil, List.map_cons, List.map_nil, Option.bind_some, put_same, Bool.xor_false, Bool.false_xor, hf3, hkx]
        refine ⟨fun b => ?_, fun b => ?_⟩
        · show (kP x).depth ≤ 8 ∧ (FK ks).length < 1000000 ∧ N2 _ (put (put L2 p (.dct kvs3)) f (.dct (dput (FK ks) (kP x) (.bl true))))
          rw [FK_put]
          have bb := of_decide_eq_true b
          refine ⟨hdx, by rw [hfl]; omega, hN2 _ _ ⟨_, _, _, kvs3, addU x ks, rfl, m3, by rw [put_ne hfp, put_same], put_same, fun a ha hb => ?_, addU_nd e4, fun y hy => ?_, gstep (addU x ks) fun y => ?_⟩⟩
          · rw [put_ne hb, put_ne ha]
            exact e3 a ha hb
          · rcases mem_addU.mp hy with hy | rfl
            · exact e5 y hy
            · exact hxin
          · rw [mem_addU]
            constructor
            · rintro (z | rfl)
              · exact .inl z
              · exact .inr ⟨hx, bb⟩
            · rintro (z | z)
              · exact .inl z
              · have := z.1.symm.trans hx
                cases this
                exact .inr rfl
        · have bb := of_decide_eq_false b
          refine hN2 _ _ ⟨_, _, _, kvs3, ks, rfl, m3, put_same, hf3, fun a ha hb => by rw [put_ne ha]; exact e3 a ha hb, e4, e5, gstep ks fun y => ?_⟩
          constructor
          · exact .inl
          · rintro (z | z)
            · exact z
            · have := z.1.symm.trans hx
              cases this
              exact (bb z.2).elim
    · obtain ⟨x7, x8, x9, kvs', ks, rfl, m', e1, e2, e3, e4, e5, e6⟩ := I2
      refine hN _ _ ⟨_, _, _, _, kvs', ks, rfl, m', e1, e2, e3, e4, e5, fun x => ?_⟩
      rw [e6, ht]
      constructor
      · rintro (⟨q2, h2, g⟩ | ⟨_, g⟩ | ⟨_, g⟩)
        · exact ⟨q2, List.mem_append_left _ h2, g⟩
        · exact ⟨q, by simp, .inl g⟩
        · exact ⟨q, by simp, .inr g⟩
      · rintro ⟨q2, h2, g⟩
        rcases List.mem_append.mp h2 with h2 | h2
        · exact .inl ⟨q2, h2, g⟩
        · rw [List.mem_singleton] at h2
          subst h2
          exact g.elim (fun g => .inr (.inl ⟨by decide, g⟩)) fun g => .inr (.inr ⟨by decide, g⟩)
  · obtain ⟨x6, x7, x8, x9, kvs', ks, rfl, m', e1, e2, e3, e4, e5, e6⟩ := I
    have hlen := lastsIn_len e5 e4
    rw [List.length_cons, List.length_cons] at hlen
    have hlen2 : (r.length + 1) * (r.length + 1) ≤ 41 * 41 := Nat.mul_le_mul (by omega) (by omega)
    have hfl : (FK ks).length = ks.length := List.length_map ..
    simp only [aRet, aCall, aCons, aNil, aVar, cListD, List.getElem?_cons_zero, List.getElem?_cons_succ, e2]
    refine ⟨by rw [hfl]; omega, ?_⟩
    rw [FK_keys]
    rw [List.length_map, List.take_length] at e6
    refine Rt.of (fun a => ?_) (h kvs' ks m' e4 e5 fun x => ?_)
    · by_cases ha : a = p
      · subst ha; rw [put_same, e1]; exact .inl rfl
      · rw [put_ne ha]
        by_cases hb : a = f
        · subst hb; exact .inr hf
        · exact .inl (e3 a ha hb).symm
    · rw [e6]
      constructor
      · rintro ⟨q, hq, g | g⟩
        · exact ⟨q, hq, nxt_stp.mpr (.inl g.1), g.2⟩
        · exact ⟨q, hq, nxt_stp.mpr (.inr g.1), g.2⟩
      · rintro ⟨q, hq, s, e⟩
        rcases nxt_stp.mp s with s | s
        · exact ⟨q, hq, .inl ⟨s, e⟩⟩
        · exact ⟨q, hq, .inr ⟨s, e⟩⟩
  · exact ⟨_, _, _, _, kvs, [], rfl, hm, by rw [put_ne hfp]; exact hp, put_same, fun a _ hb => put_ne hb, by simp, fun x hx => by simp at hx, fun x => by simp⟩
/-! leaving -/
abbrev N_leaving : List Str := ["row", "worths", "known", "lasts", "found", "at", "gone", "last"]
def A_leaving : ASp := fun ds L K => ∃ r ws : List Int, ds = [.tup (r.map .int), .tup (ws.map .int)] ∧ ws.length = r.length ∧ r.length ≤ 40 ∧ ∀ g : List Int, Lot r ws g → K (.tup (g.map .int)) L
def t_leaving : ATS :=
  (aSeq (aAsg aDNew (.one 2))
  (aSeq (aAsg (aLst (aCons (aCall A_begun aNil) aNil)) (.one 3))
  (aSeq (aAsg (aLstM aNil) (.one 4))
  (aSeq (aFor (iRg1 (aCall cLen (aCons (aVar 0) aNil))) (.one 5) (aSeq (aAsg (aLstM aNil) (.one 6))
  (aSeq (aFor (iSeq (aVar 3)) (.one 7) (aIfS (aB (aOp (oEq false) (aCall A_most_from (aCons (aVar 0) (aCons (aVar 1) (aCons (aVar 5) (aCons (aVar 7) (aCons (aVar 2) aNil)))))) (aCall A_most_from (aCons (aVar 0) (aCons (aVar 1) (aCons (aOp oAdd (aVar 5) (aC (.int 1))) (aCons (aVar 7) (aCons (aVar 2) aNil)))))))) (aDrop (aBM mAppend (aVar 6) (aCons (aVar 7) aNil))) aNext))
  (aIfS (aB (aOp (oEq true) (aVar 6) (aLst aNil))) (aSeq (aDrop (aBM mAppend (aVar 4) (aCons (aVar 5) aNil)))
  (aAsg (aFrz (aVar 6)) (.one 3))) (aAsg (aCall A_stays (aCons (aVar 0) (aCons (aVar 1) (aCons (aVar 5) (aCons (aVar 3) (aCons (aVar 2) aNil)))))) (.one 3))))))
  (aRet (aCall cTuple (aCons (aVar 4) aNil)))))))
theorem r_leaving {ds : List D} {L : Lg} {Kk : AK} (h : A_leaving ds L Kk) : t_leaving { nx := fun _ L' => Rt Kk .non L', rt := Rt Kk } (startD N_leaving ds) L := by
  obtain ⟨r, ws, rfl, hws, hr, h⟩ := h
  show t_leaving _ [some (.tup (r.map .int)), some (.tup (ws.map .int)), none, none, none, none, none, none] L
  unfold t_leaving
  simp only [aSeq, aAsg, Tg.A, aVar, aC, aOp, aCons, aNil, aCall, aTup, aLst, aLstM, aFrz, aRet, aIfS, aNext, aDrop, aNever, aB, aAnd, aOr, aNot, aAndV, aOrV, aNotV, aIf, aCh, aNeg, aIsN, isN, oI0, oI, oEq, oIn, oIx, oAdd, oDIn, oDGet, oSub, oMod, oFdiv, oPow, oMul, oLt, oLe, oGt, oGe, pLe, pLt, see, items, cLen, cAll, cAny, cSorted, cSortedM, cSum, cMax, cMax2, cMin2, cList, cListM, cTuple, aIsi, aTupRg, aLstRg, oNone, oSome, aSl, aRev, aRevM, aBM, mAppend, mPopAt, mInsert, aDNew, aSetI, aSetD, aPar3, aAsgU, aLenSetS, aTabS, oIsB, mIndex, cMinT, aFor, aWhile, iSeq, seqOf, iRg1, iRg2, iZip, iEnum, aYes, aLc, aLcM, aPar, wipeD, setAll, tyD, eq_self, true_implies, false_implies, implies_true, and_true, true_and, ne_eq, not_false_eq_true, reduceCtorEq, Bool.not_true, Bool.not_false, ix30, ix32, at30, at31, at32, isiD_ii, isiD_bi, isiD_tt, isiD_ll, isiD_il, isiD_bl2, isiD_it, isiD_bt, isiD_st, isiD_sl, isiD_lt, isiD_si, isiD_li, isiD_bb, eqD_int, okD_i, List.set_cons_zero, List.set_cons_succ, List.getElem?_cons_zero, List.getElem?_cons_succ, List.length_cons, List.length_nil, List.map_cons, List.map_nil, Option.bind_some, put_same, Bool.xor_false, Bool.false_xor, A_begun]
  intro p hp
  refine ⟨by decide, by decide, fun f hf => ?_⟩
  have hfp : f ≠ p := fun e => by rw [e, put_same] at hf; cases hf
  have hfL : L f = none := by rw [put_ne hfp] at hf; exact hf
  have hpf : p ≠ f := fun e => hfp e.symm
  rw [List.length_map]
  refine ⟨by omega, by omega, ?_⟩
  rw [Int.toNat_natCast]
  refine forA_ind (fun i Δ L' => ∃ (x5 x6 x7 : Option D) (kvs : List (NestedKey × D)) (g : List Int) (l : List (Int × Int)), Δ = [some (.tup (r.map .int)), some (.tup (ws.map .int)), some (.ref p), some (.lst (l.map pD)), some (.ref f), x5, x6, x7] ∧ MemoB r ws kvs ∧ L' p = some (.dct kvs) ∧ L' f = some (.lst (g.map .int)) ∧
    (∀ a, a ≠ p → a ≠ f → L' a = L a ∨ L a = none) ∧ l.Nodup ∧ LastsIn (-1 :: r) (1000000001 :: r) l ∧ Lv r ws i g l) (fun _ _ _ _ => trivial) (fun i d Δ L' N e I hN => ?_) (fun Δ L' I => ?_) ?_
  · obtain ⟨x5, x6, x7, kvs, g, l, rfl, m0, e1, e2, e3, e4, e5, lv⟩ := I
    obtain ⟨hi, rfl⟩ := rgD_get e
    have hc : r[i]? = some r[i] := List.getElem?_eq_getElem hi
    generalize r[i] = c at hc
    have hw : ws[i]? = some (ws[i]'(by omega)) := List.getElem?_eq_getElem _
    generalize ws[i]'(by omega) = w at hw
    have hgl : g.length ≤ i := by
      have hn : g.Nodup := lv.ris.imp fun {a b} h => Int.ne_of_lt h
      have k1 := keepM_count hn lv.rng
      omega
    have hlen := lastsIn_len e5 e4
    rw [List.length_cons, List.length_cons] at hlen
    have hlen2 : (r.length + 1) * (r.length + 1) ≤ 41 * 41 := Nat.mul_le_mul (by omega) (by omega)
    simp only [aSeq, aAsg, Tg.A, aVar, aC, aOp, aCons, aNil, aCall, aTup, aLst, aLstM, aFrz, aRet, aIfS, aNext, aDrop, aNever, aB, aAnd, aOr, aNot, aAndV, aOrV, aNotV, aIf, aCh, aNeg, aIsN, isN, oI0, oI, oEq, oIn, oIx, oAdd, oDIn, oDGet, oSub, oMod, oFdiv, oPow, oMul, oLt, oLe, oGt, oGe, pLe, pLt, see, items, cLen, cAll, cAny, cSorted, cSortedM, cSum, cMax, cMax2, cMin2, cList, cListM, cTuple, aIsi, aTupRg, aLstRg, oNone, oSome, aSl, aRev, aRevM, aBM, mAppend, mPopAt, mInsert, aDNew, aSetI, aSetD, aPar3, aAsgU, aLenSetS, aTabS, oIsB, mIndex, cMinT, aFor, aWhile, iSeq, seqOf, iRg1, iRg2, iZip, iEnum, aYes, aLc, aLcM, aPar, wipeD, setAll, tyD, eq_self, true_implies, false_implies, implies_true, and_true, true_and, ne_eq, not_false_eq_true, reduceCtorEq, Bool.not_true, Bool.not_false, ix30, ix32, at30, at31, at32, isiD_ii, isiD_bi, isiD_tt, isiD_ll, isiD_il, isiD_bl2, isiD_it, isiD_bt, isiD_st, isiD_sl, isiD_lt, isiD_si, isiD_li, isiD_bb, eqD_int, okD_i, List.set_cons_zero, List.set_cons_succ, List.getElem?_cons_zero, List.getElem?_cons_succ, List.length_cons, List.length_nil, List.map_cons, List.map_nil, Option.bind_some, put_same, Bool.xor_false, Bool.false_xor, Int.zero_add]
    refine ⟨by decide, fun q hq => ?_⟩
    have hqp : q ≠ p := fun e => by rw [e, e1] at hq; cases hq
    have hqf : q ≠ f := fun e => by rw [e, e2] at hq; cases hq
    have hqL : L q = none := by
      rcases e3 q hqp hqf with z | z
      · rw [← z]; exact hq
      · exact z
    refine forA_ind (fun j Δ L2 => ∃ (x7 : Option D) (kvs : List (NestedKey × D)), Δ = [some (.tup (r.map .int)), some (.tup (ws.map .int)), some (.ref p), some (.lst (l.map pD)), some (.ref f), some (.int (i : Nat)), some (.ref q), x7] ∧ MemoB r ws kvs ∧ L2 p = some (.dct kvs) ∧ L2 f = some (.lst (g.map .int)) ∧
      L2 q = some (.lst (((l.take j).filter fun a => decide (best (r.drop i) (ws.drop i) a.1 a.2 = best (r.drop (i + 1)) (ws.drop (i + 1)) a.1 a.2)).map pD)) ∧ (∀ a, a ≠ p → a ≠ f → a ≠ q → L2 a = L a ∨ L a = none)) (fun _ _ _ _ => trivial) (fun j d Δ L2 N2 e6 I2 hN2 => ?_) (fun Δ L2 I2 => ?_) ?_
    · obtain ⟨x7, kvs, rfl, m1, f1, f2, f3, f4⟩ := I2
      rw [List.getElem?_map] at e6
      obtain ⟨a, ha, rfl⟩ := Option.map_eq_some_iff.mp e6
      have hal := e5 a (List.mem_of_getElem? ha)
      have hs := filt_snoc (p := fun a : Int × Int => decide (best (r.drop i) (ws.drop i) a.1 a.2 = best (r.drop (i + 1)) (ws.drop (i + 1)) a.1 a.2)) ha
      simp only [aSeq, aAsg, Tg.A, aVar, aC, aOp, aCons, aNil, aCall, aTup, aLst, aLstM, aFrz, aRet, aIfS, aNext, aDrop, aNever, aB, aAnd, aOr, aNot, aAndV, aOrV, aNotV, aIf, aCh, aNeg, aIsN, isN, oI0, oI, oEq, oIn, oIx, oAdd, oDIn, oDGet, oSub, oMod, oFdiv, oPow, oMul, oLt, oLe, oGt, oGe, pLe, pLt, see, items, cLen, cAll, cAny, cSorted, cSortedM, cSum, cMax, cMax2, cMin2, cList, cListM, cTuple, aIsi, aTupRg, aLstRg, oNone, oSome, aSl, aRev, aRevM, aBM, mAppend, mPopAt, mInsert, aDNew, aSetI, aSetD, aPar3, aAsgU, aLenSetS, aTabS, oIsB, mIndex, cMinT, aFor, aWhile, iSeq, seqOf, iRg1, iRg2, iZip, iEnum, aYes, aLc, aLcM, aPar, wipeD, setAll, tyD, eq_self, true_implies, false_implies, implies_true, and_true, true_and, ne_eq, not_false_eq_true, reduceCtorEq, Bool.not_true, Bool.not_false, ix30, ix32, at30, at31, at32, isiD_ii, isiD_bi, isiD_tt, isiD_ll, isiD_il, isiD_bl2, isiD_it, isiD_bt, isiD_st, isiD_sl, isiD_lt, isiD_si, isiD_li, isiD_bb, eqD_int, okD_i, List.set_cons_zero, List.set_cons_succ, List.getElem?_cons_zero, List.getElem?_cons_succ, List.length_cons, List.length_nil, List.map_cons, List.map_nil, Option.bind_some, put_same, Bool.xor_false, Bool.false_xor, pD, A_most_from]
      refine ⟨r, ws, i, a.1, a.2, p, kvs, rfl, f1, m1, hws, hr, by omega, by omega, hal.1, hal.2, fun kvs2 m2 => ?_⟩
      simp only [aSeq, aAsg, Tg.A, aVar, aC, aOp, aCons, aNil, aCall, aTup, aLst, aLstM, aFrz, aRet, aIfS, aNext, aDrop, aNever, aB, aAnd, aOr, aNot, aAndV, aOrV, aNotV, aIf, aCh, aNeg, aIsN, isN, oI0, oI, oEq, oIn, oIx, oAdd, oDIn, oDGet, oSub, oMod, oFdiv, oPow, oMul, oLt, oLe, oGt, oGe, pLe, pLt, see, items, cLen, cAll, cAny, cSorted, cSortedM, cSum, cMax, cMax2, cMin2, cList, cListM, cTuple, aIsi, aTupRg, aLstRg, oNone, oSome, aSl, aRev, aRevM, aBM, mAppend, mPopAt, mInsert, aDNew, aSetI, aSetD, aPar3, aAsgU, aLenSetS, aTabS, oIsB, mIndex, cMinT, aFor, aWhile, iSeq, seqOf, iRg1, iRg2, iZip, iEnum, aYes, aLc, aLcM, aPar, wipeD, setAll, tyD, eq_self, true_implies, false_implies, implies_true, and_true, true_and, ne_eq, not_false_eq_true, reduceCtorEq, Bool.not_true, Bool.not_false, ix30, ix32, at30, at31, at32, isiD_ii, isiD_bi, isiD_tt, isiD_ll, isiD_il, isiD_bl2, isiD_it, isiD_bt, isiD_st, isiD_sl, isiD_lt, isiD_si, isiD_li, isiD_bb, eqD_int, okD_i, List.set_cons_zero, List.set_cons_succ, List.getElem?_cons_zero, List.getElem?_cons_succ, List.length_cons, List.length_nil, List.map_cons, List.map_nil, Option.bind_some, put_same, Bool.xor_false, Bool.false_xor]
      refine ⟨r, ws, i + 1, a.1, a.2, p, kvs2, by simp, put_same, m2, hws, hr, by omega, by omega, hal.1, hal.2, fun kvs3 m3 => ?_⟩
      rw [put_put]
      have g1 : put L2 p (.dct kvs3) f = some (.lst (g.map .int)) := by rw [put_ne hfp]; exact f2
      have g2 := f3
      rw [← put_ne (L := L2) (c := .dct kvs3) hqp] at g2
      simp only [aSeq, aAsg, Tg.A, aVar, aC, aOp, aCons, aNil, aCall, aTup, aLst, aLstM, aFrz, aRet, aIfS, aNext, aDrop, aNever, aB, aAnd, aOr, aNot, aAndV, aOrV, aNotV, aIf, aCh, aNeg, aIsN, isN, oI0, oI, oEq, oIn, oIx, oAdd, oDIn, oDGet, oSub, oMod, oFdiv, oPow, oMul, oLt, oLe, oGt, oGe, pLe, pLt, see, items, cLen, cAll, cAny, cSorted, cSortedM, cSum, cMax, cMax2, cMin2, cList, cListM, cTuple, aIsi, aTupRg, aLstRg, oNone, oSome, aSl, aRev, aRevM, aBM, mAppend, mPopAt, mInsert, aDNew, aSetI, aSetD, aPar3, aAsgU, aLenSetS, aTabS, oIsB, mIndex, cMinT, aFor, aWhile, iSeq, seqOf, iRg1, iRg2, iZip, iEnum, aYes, aLc, aLcM, aPar, wipeD, setAll, tyD, eq_self, true_implies, false_implies, implies_true, and_true, true_and, ne_eq, not_false_eq_true, reduceCtorEq, Bool.not_true, Bool.not_false, ix30, ix32, at30, at31, at32, isiD_ii, isiD_bi, isiD_tt, isiD_ll, isiD_il, isiD_bl2, isiD_it, isiD_bt, isiD_st, isiD_sl, isiD_lt, isiD_si, isiD_li, isiD_bb, eqD_int, okD_i, List.set_cons_zero, List.set_cons_succ, List.getElem?_cons_zero, List.getElem?_cons_succ, List.length_cons, List.length_nil, List.map_cons, List.map_nil, Option.bind_some, put_same, Bool.xor_false, Bool.false_xor, g2]
      refine ⟨fun b => ?_, fun b => ?_⟩
      · refine ⟨⟨_, rfl⟩, ?_, hN2 _ _ ⟨_, kvs3, rfl, m3, by rw [put_ne (Ne.symm hqp), put_same], by rw [put_ne (Ne.symm hqf)]; exact g1, ?_, fun z z1 z2 z3 => ?_⟩⟩
        · have := List.length_filter_le (fun a : Int × Int => decide (best (r.drop i) (ws.drop i) a.1 a.2 = best (r.drop (i + 1)) (ws.drop (i + 1)) a.1 a.2)) (l.take j)
          rw [List.length_take] at this
          rw [List.length_map]
          omega
        · rw [put_same, hs, if_pos b, List.map_append]
          rfl
        · rw [put_ne z3, put_ne z1]
          exact f4 z z1 z2 z3
      · refine hN2 _ _ ⟨_, kvs3, rfl, m3, put_same, g1, ?_, fun z z1 z2 z3 => ?_⟩
        · rw [g2, hs, if_neg (by rw [b]; exact Bool.false_ne_true), List.append_nil]
        · rw [put_ne z1]
          exact f4 z z1 z2 z3
    · obtain ⟨x7, kvs, rfl, m1, f1, f2, f3, f4⟩ := I2
      rw [List.length_map, List.take_length] at f3
      generalize hl' : (l.filter fun a => decide (best (r.drop i) (ws.drop i) a.1 a.2 = best (r.drop (i + 1)) (ws.drop (i + 1)) a.1 a.2)) = l' at f3
      have mem' : ∀ a, a ∈ l' ↔ a ∈ l ∧ best (r.drop i) (ws.drop i) a.1 a.2 = best (r.drop (i + 1)) (ws.drop (i + 1)) a.1 a.2 := fun a => by
        rw [← hl', List.mem_filter, decide_eq_true_iff]
      have ok1 : okD 64 (.lst (l'.map pD)) = true := okD_pairs l' 62
      have ok2 : okD 64 (.lst []) = true := rfl
      simp only [aSeq, aAsg, Tg.A, aVar, aC, aOp, aCons, aNil, aCall, aTup, aLst, aLstM, aFrz, aRet, aIfS, aNext, aDrop, aNever, aB, aAnd, aOr, aNot, aAndV, aOrV, aNotV, aIf, aCh, aNeg, aIsN, isN, oI0, oI, oEq, oIn, oIx, oAdd, oDIn, oDGet, oSub, oMod, oFdiv, oPow, oMul, oLt, oLe, oGt, oGe, pLe, pLt, see, items, cLen, cAll, cAny, cSorted, cSortedM, cSum, cMax, cMax2, cMin2, cList, cListM, cTuple, aIsi, aTupRg, aLstRg, oNone, oSome, aSl, aRev, aRevM, aBM, mAppend, mPopAt, mInsert, aDNew, aSetI, aSetD, aPar3, aAsgU, aLenSetS, aTabS, oIsB, mIndex, cMinT, aFor, aWhile, iSeq, seqOf, iRg1, iRg2, iZip, iEnum, aYes, aLc, aLcM, aPar, wipeD, setAll, tyD, eq_self, true_implies, false_implies, implies_true, and_true, true_and, ne_eq, not_false_eq_true, reduceCtorEq, Bool.not_true, Bool.not_false, ix30, ix32, at30, at31, at32, isiD_ii, isiD_bi, isiD_tt, isiD_ll, isiD_il, isiD_bl2, isiD_it, isiD_bt, isiD_st, isiD_sl, isiD_lt, isiD_si, isiD_li, isiD_bb, eqD_int, okD_i, List.set_cons_zero, List.set_cons_succ, List.getElem?_cons_zero, List.getElem?_cons_succ, List.length_cons, List.length_nil, List.map_cons, List.map_nil, Option.bind_some, put_same, Bool.xor_false, Bool.false_xor, f3, ok1, ok2, eqD_nil, List.isEmpty_map]
      refine ⟨by decide, fun b => ?_, fun b => ?_⟩
      · have hne : l' ≠ [] := fun z => by rw [z] at b; cases b
        have hq2 : put L2 f (.lst (g.map .int ++ [.int i])) q = some (.lst (l'.map pD)) := by rw [put_ne hqf]; exact f3
        simp only [aSeq, aAsg, Tg.A, aVar, aC, aOp, aCons, aNil, aCall, aTup, aLst, aLstM, aFrz, aRet, aIfS, aNext, aDrop, aNever, aB, aAnd, aOr, aNot, aAndV, aOrV, aNotV, aIf, aCh, aNeg, aIsN, isN, oI0, oI, oEq, oIn, oIx, oAdd, oDIn, oDGet, oSub, oMod, oFdiv, oPow, oMul, oLt, oLe, oGt, oGe, pLe, pLt, see, items, cLen, cAll, cAny, cSorted, cSortedM, cSum, cMax, cMax2, cMin2, cList, cListM, cTuple, aIsi, aTupRg, aLstRg, oNone, oSome, aSl, aRev, aRevM, aBM, mAppend, mPopAt, mInsert, aDNew, aSetI, aSetD, aPar3, aAsgU, aLenSetS, aTabS, oIsB, mIndex, cMinT, aFor, aWhile, iSeq, seqOf, iRg1, iRg2, iZip, iEnum, aYes, aLc, aLcM, aPar, wipeD, setAll, tyD, eq_self, true_implies, false_implies, implies_true, and_true, true_and, ne_eq, not_false_eq_true, reduceCtorEq, Bool.not_true, Bool.not_false, ix30, ix32, at30, at31, at32, isiD_ii, isiD_bi, isiD_tt, isiD_ll, isiD_il, isiD_bl2, isiD_it, isiD_bt, isiD_st, isiD_sl, isiD_lt, isiD_si, isiD_li, isiD_bb, eqD_int, okD_i, List.set_cons_zero, List.set_cons_succ, List.getElem?_cons_zero, List.getElem?_cons_succ, List.length_cons, List.length_nil, List.map_cons, List.map_nil, Option.bind_some, put_same, Bool.xor_false, Bool.false_xor, f2, hq2]
        refine ⟨⟨_, rfl⟩, by rw [List.length_map]; omega, hN _ _ ⟨_, _, _, kvs, g ++ [(i : Int)], l', rfl, m1, ?_, ?_, fun a z1 z2 => ?_, ?_, fun x hx => e5 x ((mem' x).mp hx).1, lv.gone hws hc hw hne mem'⟩⟩
        · unfold del
          rw [if_neg (Ne.symm hqp), put_ne hpf]
          exact f1
        · unfold del
          rw [if_neg (Ne.symm hqf), put_same, List.map_append]
          rfl
        · unfold del
          by_cases z3 : a = q
          · subst z3; exact .inr hqL
          · rw [if_neg z3, put_ne z2]
            exact f4 a z1 z2 z3
        · rw [← hl']
          exact e4.filter _
      · have hnil : l' = [] := by
          cases l' with
          | nil => rfl
          | cons x xs => cases b
        refine ⟨r, ws, i, c, w, l, p, kvs, rfl, f1, m1, hws, hr, hc, hw, e5, fun kvs' l2 m2 nd2 in2 mem2 => ?_⟩
        refine hN _ _ ⟨_, _, _, kvs', g, l2, rfl, m2, put_same, by rw [put_ne hfp]; exact f2, fun a z1 z2 => ?_, nd2, in2, lv.stay hws hc hw (fun a ha eq => ?_) mem2⟩
        · rw [put_ne z1]
          by_cases z3 : a = q
          · subst z3; exact .inr hqL
          · exact f4 a z1 z2 z3
        · have := (mem' a).mpr ⟨ha, eq⟩
          rw [hnil] at this
          cases this
    · exact ⟨_, kvs, rfl, m0, by rw [put_ne (Ne.symm hqp)]; exact e1, by rw [put_ne (Ne.symm hqf)]; exact e2, put_same, fun a z1 z2 z3 => by rw [put_ne z3]; exact e3 a z1 z2⟩
  · obtain ⟨x5, x6, x7, kvs, g, l, rfl, m0, e1, e2, e3, e4, e5, lv⟩ := I
    rw [rgD_len] at lv
    simp only [aSeq, aAsg, Tg.A, aVar, aC, aOp, aCons, aNil, aCall, aTup, aLst, aLstM, aFrz, aRet, aIfS, aNext, aDrop, aNever, aB, aAnd, aOr, aNot, aAndV, aOrV, aNotV, aIf, aCh, aNeg, aIsN, isN, oI0, oI, oEq, oIn, oIx, oAdd, oDIn, oDGet, oSub, oMod, oFdiv, oPow, oMul, oLt, oLe, oGt, oGe, pLe, pLt, see, items, cLen, cAll, cAny, cSorted, cSortedM, cSum, cMax, cMax2, cMin2, cList, cListM, cTuple, aIsi, aTupRg, aLstRg, oNone, oSome, aSl, aRev, aRevM, aBM, mAppend, mPopAt, mInsert, aDNew, aSetI, aSetD, aPar3, aAsgU, aLenSetS, aTabS, oIsB, mIndex, cMinT, aFor, aWhile, iSeq, seqOf, iRg1, iRg2, iZip, iEnum, aYes, aLc, aLcM, aPar, wipeD, setAll, tyD, eq_self, true_implies, false_implies, implies_true, and_true, true_and, ne_eq, not_false_eq_true, reduceCtorEq, Bool.not_true, Bool.not_false, ix30, ix32, at30, at31, at32, isiD_ii, isiD_bi, isiD_tt, isiD_ll, isiD_il, isiD_bl2, isiD_it, isiD_bt, isiD_st, isiD_sl, isiD_lt, isiD_si, isiD_li, isiD_bb, eqD_int, okD_i, List.set_cons_zero, List.set_cons_succ, List.getElem?_cons_zero, List.getElem?_cons_succ, List.length_cons, List.length_nil, List.map_cons, List.map_nil, Option.bind_some, put_same, Bool.xor_false, Bool.false_xor, e2]
    refine Rt.of (fun a => ?_) (h g (lv.lot hws))
    by_cases ha : a = p
    · subst ha; exact .inr hp
    · by_cases hb : a = f
      · subst hb; exact .inr hfL
      · rcases e3 a ha hb with z | z
        · exact .inl z.symm
        · exact .inr z
  · refine ⟨_, _, _, [], [], [(-1, 1000000001)], rfl, MemoB.nil r ws, by rw [put_ne hpf, put_same], put_same, fun a h1 h2 => .inl (by rw [put_ne h2, put_ne h1]), by simp, fun x hx => ?_, Lv.start r ws⟩
    rw [List.mem_singleton] at hx
    subst hx
    exact ⟨by simp, by simp⟩
/-! fewest -/
abbrev N_fewest : List Str := ["row", "found"]
def A_fewest : ASp := fun ds L K => ∃ r : List Int, ds = [.tup (r.map .int)] ∧ Row r ∧ ∀ g : List Int, Lot r (ones r.length) g → K (.tup [.int g.length, .tup (g.map .int)]) L
def t_fewest : ATS :=
  (aSeq (aDrop (aCall A_need_row (aCons (aVar 0) aNil)))
  (aSeq (aAsg (aCall A_leaving (aCons (aVar 0) (aCons (aOp oRepT (aTup (aCons (aC (.int 1)) aNil)) (aCall cLen (aCons (aVar 0) aNil))) aNil))) (.one 1))
  (aRet (aTup (aCons (aCall cLen (aCons (aVar 1) aNil)) (aCons (aVar 1) aNil))))))
theorem r_fewest {ds : List D} {L : Lg} {Kk : AK} (h : A_fewest ds L Kk) : t_fewest { nx := fun _ L' => Rt Kk .non L', rt := Rt Kk } (startD N_fewest ds) L := by
  obtain ⟨r, rfl, hr, h⟩ := h
  show t_fewest _ [some (.tup (r.map .int)), none] L
  unfold t_fewest
  have hfew := hr.few
  have hpos := hr.pos
  have er : (List.replicate (r.length : Int).toNat [D.int 1]).flatten = (ones r.length).map .int := by
    unfold ones
    rw [Int.toNat_natCast, List.map_replicate]
    generalize r.length = n
    induction n with
    | zero => rfl
    | succ n ih => rw [List.replicate_succ, List.flatten_cons, ih]; rfl
  simp only [aSeq, aAsg, Tg.A, aVar, aC, aOp, aCons, aNil, aCall, aTup, aLst, aLstM, aFrz, aRet, aIfS, aNext, aDrop, aNever, aB, aAnd, aOr, aNot, aAndV, aOrV, aNotV, aIf, aCh, aNeg, aIsN, isN, oI0, oI, oEq, oIn, oIx, oAdd, oDIn, oDGet, oSub, oMod, oFdiv, oPow, oMul, oLt, oLe, oGt, oGe, pLe, pLt, see, items, cLen, cAll, cAny, cSorted, cSortedM, cSum, cMax, cMax2, cMin2, cList, cListM, cTuple, aIsi, aTupRg, aLstRg, oNone, oSome, aSl, aRev, aRevM, aBM, mAppend, mPopAt, mInsert, aDNew, aSetI, aSetD, aPar3, aAsgU, aLenSetS, aTabS, oIsB, mIndex, cMinT, aFor, aWhile, iSeq, seqOf, iRg1, iRg2, iZip, iEnum, aYes, aLc, aLcM, aPar, wipeD, setAll, tyD, eq_self, true_implies, false_implies, implies_true, and_true, true_and, ne_eq, not_false_eq_true, reduceCtorEq, Bool.not_true, Bool.not_false, ix30, ix32, at30, at31, at32, isiD_ii, isiD_bi, isiD_tt, isiD_ll, isiD_il, isiD_bl2, isiD_it, isiD_bt, isiD_st, isiD_sl, isiD_lt, isiD_si, isiD_li, isiD_bb, eqD_int, okD_i, List.set_cons_zero, List.set_cons_succ, List.getElem?_cons_zero, List.getElem?_cons_succ, List.length_cons, List.length_nil, List.map_cons, List.map_nil, Option.bind_some, put_same, Bool.xor_false, Bool.false_xor, A_need_row]
  refine ⟨r, rfl, hr, ?_⟩
  simp only [aSeq, aAsg, Tg.A, aVar, aC, aOp, aCons, aNil, aCall, aTup, aLst, aLstM, aFrz, aRet, aIfS, aNext, aDrop, aNever, aB, aAnd, aOr, aNot, aAndV, aOrV, aNotV, aIf, aCh, aNeg, aIsN, isN, oI0, oI, oEq, oIn, oIx, oAdd, oDIn, oDGet, oSub, oMod, oFdiv, oPow, oMul, oLt, oLe, oGt, oGe, pLe, pLt, see, items, cLen, cAll, cAny, cSorted, cSortedM, cSum, cMax, cMax2, cMin2, cList, cListM, cTuple, aIsi, aTupRg, aLstRg, oNone, oSome, aSl, aRev, aRevM, aBM, mAppend, mPopAt, mInsert, aDNew, aSetI, aSetD, aPar3, aAsgU, aLenSetS, aTabS, oIsB, mIndex, cMinT, aFor, aWhile, iSeq, seqOf, iRg1, iRg2, iZip, iEnum, aYes, aLc, aLcM, aPar, wipeD, setAll, tyD, eq_self, true_implies, false_implies, implies_true, and_true, true_and, ne_eq, not_false_eq_true, reduceCtorEq, Bool.not_true, Bool.not_false, ix30, ix32, at30, at31, at32, isiD_ii, isiD_bi, isiD_tt, isiD_ll, isiD_il, isiD_bl2, isiD_it, isiD_bt, isiD_st, isiD_sl, isiD_lt, isiD_si, isiD_li, isiD_bb, eqD_int, okD_i, List.set_cons_zero, List.set_cons_succ, List.getElem?_cons_zero, List.getElem?_cons_succ, List.length_cons, List.length_nil, List.map_cons, List.map_nil, Option.bind_some, put_same, Bool.xor_false, Bool.false_xor, oRepT, List.length_map, er, A_leaving]
  refine ⟨by decide, by omega, by omega, by decide, r, ones r.length, rfl, ones_len _, hfew, fun g hg => ?_⟩
  exact ⟨by decide, Rt.same (h g hg)⟩
/-! need_worths -/
abbrev N_need_worths : List Str := ["row", "worths", "good", "one"]
def Worths (r ws : List Int) : Prop := ws.length = r.length ∧ ∀ w ∈ ws, 0 ≤ w ∧ w ≤ 1000000000
def A_need_worths : ASp := fun ds L K => ∃ r ws : List Int, ds = [.tup (r.map .int), .tup (ws.map .int)] ∧ Row r ∧ Worths r ws ∧ K .non L
def t_need_worths : ATS :=
  (aSeq (aDrop (aCall A_need_row (aCons (aVar 0) aNil)))
  (aSeq (aAsg (aAndV (aIsi "tuple" (aVar 1)) (aOp (oEq false) (aCall cLen (aCons (aVar 1) aNil)) (aCall cLen (aCons (aVar 0) aNil)))) (.one 2))
  (aIfS (aOr (aNot (aB (aVar 2))) (aNot (aB (aCall cAll (aCons (aLc (iSeq (aVar 1)) (.one 3) aYes (aCall A_is_from (aCons (aVar 3) (aCons (aC (.int 0)) (aCons (aC (.int 1000000000)) aNil)))) [3]) aNil))))) aNever aNext)))
theorem r_need_worths {ds : List D} {L : Lg} {Kk : AK} (h : A_need_worths ds L Kk) : t_need_worths { nx := fun _ L' => Rt Kk .non L', rt := Rt Kk } (startD N_need_worths ds) L := by
  obtain ⟨r, ws, rfl, hr, hw, h⟩ := h
  show t_need_worths _ [some (.tup (r.map .int)), some (.tup (ws.map .int)), none, none] L
  unfold t_need_worths
  have hfew := hr.few
  have hl : decide ((ws.length : Int) = (r.length : Int)) = true := by rw [hw.1]; simp
  simp only [aSeq, aAsg, Tg.A, aVar, aC, aOp, aCons, aNil, aCall, aTup, aLst, aLstM, aFrz, aRet, aIfS, aNext, aDrop, aNever, aB, aAnd, aOr, aNot, aAndV, aOrV, aNotV, aIf, aCh, aNeg, aIsN, isN, oI0, oI, oEq, oIn, oIx, oAdd, oDIn, oDGet, oSub, oMod, oFdiv, oPow, oMul, oLt, oLe, oGt, oGe, pLe, pLt, see, items, cLen, cAll, cAny, cSorted, cSortedM, cSum, cMax, cMax2, cMin2, cList, cListM, cTuple, aIsi, aTupRg, aLstRg, oNone, oSome, aSl, aRev, aRevM, aBM, mAppend, mPopAt, mInsert, aDNew, aSetI, aSetD, aPar3, aAsgU, aLenSetS, aTabS, oIsB, mIndex, cMinT, aFor, aWhile, iSeq, seqOf, iRg1, iRg2, iZip, iEnum, aYes, aLc, aLcM, aPar, wipeD, setAll, tyD, eq_self, true_implies, false_implies, implies_true, and_true, true_and, ne_eq, not_false_eq_true, reduceCtorEq, Bool.not_true, Bool.not_false, ix30, ix32, at30, at31, at32, isiD_ii, isiD_bi, isiD_tt, isiD_ll, isiD_il, isiD_bl2, isiD_it, isiD_bt, isiD_st, isiD_sl, isiD_lt, isiD_si, isiD_li, isiD_bb, eqD_int, okD_i, List.set_cons_zero, List.set_cons_succ, List.getElem?_cons_zero, List.getElem?_cons_succ, List.length_cons, List.length_nil, List.map_cons, List.map_nil, Option.bind_some, put_same, Bool.xor_false, Bool.false_xor, A_need_row]
  refine ⟨r, rfl, hr, ?_⟩
  simp only [aSeq, aAsg, Tg.A, aVar, aC, aOp, aCons, aNil, aCall, aTup, aLst, aLstM, aFrz, aRet, aIfS, aNext, aDrop, aNever, aB, aAnd, aOr, aNot, aAndV, aOrV, aNotV, aIf, aCh, aNeg, aIsN, isN, oI0, oI, oEq, oIn, oIx, oAdd, oDIn, oDGet, oSub, oMod, oFdiv, oPow, oMul, oLt, oLe, oGt, oGe, pLe, pLt, see, items, cLen, cAll, cAny, cSorted, cSortedM, cSum, cMax, cMax2, cMin2, cList, cListM, cTuple, aIsi, aTupRg, aLstRg, oNone, oSome, aSl, aRev, aRevM, aBM, mAppend, mPopAt, mInsert, aDNew, aSetI, aSetD, aPar3, aAsgU, aLenSetS, aTabS, oIsB, mIndex, cMinT, aFor, aWhile, iSeq, seqOf, iRg1, iRg2, iZip, iEnum, aYes, aLc, aLcM, aPar, wipeD, setAll, tyD, eq_self, true_implies, false_implies, implies_true, and_true, true_and, ne_eq, not_false_eq_true, reduceCtorEq, Bool.not_true, Bool.not_false, ix30, ix32, at30, at31, at32, isiD_ii, isiD_bi, isiD_tt, isiD_ll, isiD_il, isiD_bl2, isiD_it, isiD_bt, isiD_st, isiD_sl, isiD_lt, isiD_si, isiD_li, isiD_bb, eqD_int, okD_i, List.set_cons_zero, List.set_cons_succ, List.getElem?_cons_zero, List.getElem?_cons_succ, List.length_cons, List.length_nil, List.map_cons, List.map_nil, Option.bind_some, put_same, Bool.xor_false, Bool.false_xor, List.length_map, hl]
  refine ⟨by decide, ?_⟩
  have hwl := hw.1
  refine ⟨by omega, ?_⟩
  refine lcA_map ws D.int (fun w => [.bl (decide (0 ≤ w) && decide (w ≤ 1000000000))]) trivial (fun w hx R hR => ?_) ?_
  · simp only [aSeq, aAsg, Tg.A, aVar, aC, aOp, aCons, aNil, aCall, aTup, aLst, aLstM, aFrz, aRet, aIfS, aNext, aDrop, aNever, aB, aAnd, aOr, aNot, aAndV, aOrV, aNotV, aIf, aCh, aNeg, aIsN, isN, oI0, oI, oEq, oIn, oIx, oAdd, oDIn, oDGet, oSub, oMod, oFdiv, oPow, oMul, oLt, oLe, oGt, oGe, pLe, pLt, see, items, cLen, cAll, cAny, cSorted, cSortedM, cSum, cMax, cMax2, cMin2, cList, cListM, cTuple, aIsi, aTupRg, aLstRg, oNone, oSome, aSl, aRev, aRevM, aBM, mAppend, mPopAt, mInsert, aDNew, aSetI, aSetD, aPar3, aAsgU, aLenSetS, aTabS, oIsB, mIndex, cMinT, aFor, aWhile, iSeq, seqOf, iRg1, iRg2, iZip, iEnum, aYes, aLc, aLcM, aPar, wipeD, setAll, tyD, eq_self, true_implies, false_implies, implies_true, and_true, true_and, ne_eq, not_false_eq_true, reduceCtorEq, Bool.not_true, Bool.not_false, ix30, ix32, at30, at31, at32, isiD_ii, isiD_bi, isiD_tt, isiD_ll, isiD_il, isiD_bl2, isiD_it, isiD_bt, isiD_st, isiD_sl, isiD_lt, isiD_si, isiD_li, isiD_bb, eqD_int, okD_i, List.set_cons_zero, List.set_cons_succ, List.getElem?_cons_zero, List.getElem?_cons_succ, List.length_cons, List.length_nil, List.map_cons, List.map_nil, Option.bind_some, put_same, Bool.xor_false, Bool.false_xor, A_is_from]
    exact ⟨_, _, _, rfl, trivial, hR⟩
  · rw [flatMap_one, asBls_map]
    have hall : (ws.map fun w => decide ((0 : Int) ≤ w) && decide (w ≤ 1000000000)).all id = true := by
      rw [List.all_map, List.all_eq_true]
      intro w hx
      have := hw.2 w hx
      simp
      omega
    dsimp only
    rw [hall]
    exact ⟨fun a => (nomatch a), fun _ => Rt.same h⟩
/-! worth -/
abbrev N_worth : List Str := ["row", "worths"]
def A_worth : ASp := fun ds L K => ∃ r ws : List Int, ds = [.tup (r.map .int), .tup (ws.map .int)] ∧ Row r ∧ Worths r ws ∧ K (.int (bst r ws)) L
def t_worth : ATS :=
  (aSeq (aDrop (aCall A_need_worths (aCons (aVar 0) (aCons (aVar 1) aNil))))
  (aRet (aCall A_most_from (aCons (aVar 0) (aCons (aVar 1) (aCons (aC (.int 0)) (aCons (aCall A_begun aNil) (aCons aDNew aNil))))))))
theorem r_worth {ds : List D} {L : Lg} {Kk : AK} (h : A_worth ds L Kk) : t_worth { nx := fun _ L' => Rt Kk .non L', rt := Rt Kk } (startD N_worth ds) L := by
  obtain ⟨r, ws, rfl, hr, hw, h⟩ := h
  show t_worth _ [some (.tup (r.map .int)), some (.tup (ws.map .int))] L
  unfold t_worth
  simp only [aSeq, aAsg, Tg.A, aVar, aC, aOp, aCons, aNil, aCall, aTup, aLst, aLstM, aFrz, aRet, aIfS, aNext, aDrop, aNever, aB, aAnd, aOr, aNot, aAndV, aOrV, aNotV, aIf, aCh, aNeg, aIsN, isN, oI0, oI, oEq, oIn, oIx, oAdd, oDIn, oDGet, oSub, oMod, oFdiv, oPow, oMul, oLt, oLe, oGt, oGe, pLe, pLt, see, items, cLen, cAll, cAny, cSorted, cSortedM, cSum, cMax, cMax2, cMin2, cList, cListM, cTuple, aIsi, aTupRg, aLstRg, oNone, oSome, aSl, aRev, aRevM, aBM, mAppend, mPopAt, mInsert, aDNew, aSetI, aSetD, aPar3, aAsgU, aLenSetS, aTabS, oIsB, mIndex, cMinT, aFor, aWhile, iSeq, seqOf, iRg1, iRg2, iZip, iEnum, aYes, aLc, aLcM, aPar, wipeD, setAll, tyD, eq_self, true_implies, false_implies, implies_true, and_true, true_and, ne_eq, not_false_eq_true, reduceCtorEq, Bool.not_true, Bool.not_false, ix30, ix32, at30, at31, at32, isiD_ii, isiD_bi, isiD_tt, isiD_ll, isiD_il, isiD_bl2, isiD_it, isiD_bt, isiD_st, isiD_sl, isiD_lt, isiD_si, isiD_li, isiD_bb, eqD_int, okD_i, List.set_cons_zero, List.set_cons_succ, List.getElem?_cons_zero, List.getElem?_cons_succ, List.length_cons, List.length_nil, List.map_cons, List.map_nil, Option.bind_some, put_same, Bool.xor_false, Bool.false_xor, A_need_worths, A_begun]
  refine ⟨r, ws, rfl, hr, hw, fun p hp => ?_⟩
  refine ⟨r, ws, 0, -1, 1000000001, p, [], rfl, put_same, MemoB.nil r ws, hw.1, hr.few, by omega, by have := hr.few; omega, by simp, by simp, fun kvs' _ => ?_⟩
  rw [put_put]
  exact Rt.drop hp h
/-! seams -/
abbrev N_seams : List Str := ["ring", "seam"]
def A_seams : ASp := fun ds L K => ∃ r : List Int, ds = [.tup (r.map .int)] ∧ Row r ∧ ∀ p, L p = none → K (.ref p) (put L p (.lst ((seamsOf r).map .int)))
def t_seams : ATS :=
  (aSeq (aDrop (aCall A_need_row (aCons (aVar 0) aNil)))
  (aRet (aLcM (iRg1 (aCall cLen (aCons (aVar 0) aNil))) (.one 1) (aB (aCall A_is_woven (aCons (aOp oAdd (aSl (aVar 0) (oSome (aVar 1)) oNone) (aSl (aVar 0) oNone (oSome (aVar 1)))) aNil))) (aVar 1) [1])))
theorem r_seams {ds : List D} {L : Lg} {Kk : AK} (h : A_seams ds L Kk) : t_seams { nx := fun _ L' => Rt Kk .non L', rt := Rt Kk } (startD N_seams ds) L := by
  obtain ⟨r, rfl, w, h⟩ := h
  show t_seams _ [some (.tup (r.map .int)), none] L
  unfold t_seams
  simp only [aSeq, aAsg, Tg.A, aVar, aC, aOp, aCons, aNil, aCall, aTup, aLst, aLstM, aFrz, aRet, aIfS, aNext, aDrop, aNever, aB, aAnd, aOr, aNot, aAndV, aOrV, aNotV, aIf, aCh, aNeg, aIsN, isN, oI0, oI, oEq, oIn, oIx, oAdd, oDIn, oDGet, oSub, oMod, oFdiv, oPow, oMul, oLt, oLe, oGt, oGe, pLe, pLt, see, items, cLen, cAll, cAny, cSorted, cSortedM, cSum, cMax, cMax2, cMin2, cList, cListM, cTuple, aIsi, aTupRg, aLstRg, oNone, oSome, aSl, aRev, aRevM, aBM, mAppend, mPopAt, mInsert, aDNew, aSetI, aSetD, aPar3, aAsgU, aLenSetS, aTabS, oIsB, mIndex, cMinT, aFor, aWhile, iSeq, seqOf, iRg1, iRg2, iZip, iEnum, aYes, aLc, aLcM, aPar, wipeD, setAll, tyD, eq_self, true_implies, false_implies, implies_true, and_true, true_and, ne_eq, not_false_eq_true, reduceCtorEq, Bool.not_true, Bool.not_false, ix30, ix32, at30, at31, at32, isiD_ii, isiD_bi, isiD_tt, isiD_ll, isiD_il, isiD_bl2, isiD_it, isiD_bt, isiD_st, isiD_sl, isiD_lt, isiD_si, isiD_li, isiD_bb, eqD_int, okD_i, List.set_cons_zero, List.set_cons_succ, List.getElem?_cons_zero, List.getElem?_cons_succ, List.length_cons, List.length_nil, List.map_cons, List.map_nil, Option.bind_some, put_same, Bool.xor_false, Bool.false_xor, A_need_row, List.length_map]
  refine ⟨r, rfl, w, by omega, by have := w.few; omega, by rw [rgD_len]; have := w.few; omega, ?_⟩
  rw [Int.toNat_natCast]
  unfold rgD
  refine lcA_map (List.range r.length) _ (fun s => if wovenB (rot s r) then [.int (s : Int)] else []) (by simp) (fun s hs R hR => ?_) ?_
  · rw [List.mem_range] at hs
    simp only [aSeq, aAsg, Tg.A, aVar, aC, aOp, aCons, aNil, aCall, aTup, aLst, aLstM, aFrz, aRet, aIfS, aNext, aDrop, aNever, aB, aAnd, aOr, aNot, aAndV, aOrV, aNotV, aIf, aCh, aNeg, aIsN, isN, oI0, oI, oEq, oIn, oIx, oAdd, oDIn, oDGet, oSub, oMod, oFdiv, oPow, oMul, oLt, oLe, oGt, oGe, pLe, pLt, see, items, cLen, cAll, cAny, cSorted, cSortedM, cSum, cMax, cMax2, cMin2, cList, cListM, cTuple, aIsi, aTupRg, aLstRg, oNone, oSome, aSl, aRev, aRevM, aBM, mAppend, mPopAt, mInsert, aDNew, aSetI, aSetD, aPar3, aAsgU, aLenSetS, aTabS, oIsB, mIndex, cMinT, aFor, aWhile, iSeq, seqOf, iRg1, iRg2, iZip, iEnum, aYes, aLc, aLcM, aPar, wipeD, setAll, tyD, eq_self, true_implies, false_implies, implies_true, and_true, true_and, ne_eq, not_false_eq_true, reduceCtorEq, Bool.not_true, Bool.not_false, ix30, ix32, at30, at31, at32, isiD_ii, isiD_bi, isiD_tt, isiD_ll, isiD_il, isiD_bl2, isiD_it, isiD_bt, isiD_st, isiD_sl, isiD_lt, isiD_si, isiD_li, isiD_bb, eqD_int, okD_i, List.set_cons_zero, List.set_cons_succ, List.getElem?_cons_zero, List.getElem?_cons_succ, List.length_cons, List.length_nil, List.map_cons, List.map_nil, Option.bind_some, put_same, Bool.xor_false, Bool.false_xor, Int.zero_add, List.length_append, cut_from, cut_to, List.length_map]
    rw [cut_from _ _ (by rw [List.length_map]; omega), cut_to _ _ (by rw [List.length_map]; omega), ← List.map_drop, ← List.map_take, ← List.map_append]
    refine ⟨by rw [List.length_map, List.length_map, List.length_drop, List.length_take]; have := w.few; omega, rot s r, rfl, by rw [rot_length]; exact w.few, fun e => ?_, fun e => ?_⟩
    · rw [if_pos e] at hR
      exact hR
    · rw [if_neg (by simp [e])] at hR
      exact hR
  · rw [flatMap_if]
    intro p hp
    have := h p hp
    unfold seamsOf at this
    rw [List.map_map] at this
    exact Rt.same this
/-! is_hidden -/
abbrev N_is_hidden : List Str := ["thing", "one", "seen"]
def A_is_hidden : ASp := fun ds L K => ∃ x : D, ds = [x] ∧ plainD x ∧ K (.bl (hidB x)) L
def t_is_hidden : ATS :=
  (aSeq (aIfS (aOr (aNot (aB (aIsi "tuple" (aVar 0)))) (aNot (aB (aCh pLe pLe (aC (.int 1)) (aCall cLen (aCons (aVar 0) aNil)) (aC (.int 7)))))) (aRet (aC (.bl false))) aNext)
  (aSeq (aIfS (aNot (aB (aCall cAll (aCons (aLc (iSeq (aVar 0)) (.one 1) aYes (aOrV (aIsN false (aVar 1)) (aCall A_is_from (aCons (aVar 1) (aCons (aC (.int 1)) (aCons (aCall cLen (aCons (aVar 0) aNil)) aNil))))) [1]) aNil)))) (aRet (aC (.bl false))) aNext)
  (aSeq (aAsg (aLc (iSeq (aVar 0)) (.one 1) (aB (aIsN true (aVar 1))) (aVar 1) [1]) (.one 2))
  (aRet (aOp (oEq false) (aCall cLen (aCons (aVar 2) aNil)) (aLenSetI (aVar 2)))))))
theorem r_is_hidden {ds : List D} {L : Lg} {Kk : AK} (h : A_is_hidden ds L Kk) : t_is_hidden { nx := fun _ L' => Rt Kk .non L', rt := Rt Kk } (startD N_is_hidden ds) L := by
  obtain ⟨x, rfl, hx, h⟩ := h
  show t_is_hidden _ [some x, none, none] L
  unfold t_is_hidden
  have i1 : isiD "tuple" "NoneType" = false := by decide
  have i2 : isiD "tuple" "bool" = false := by decide
  have i3 : isiD "tuple" "str" = false := by decide
  have i4 : isiD "tuple" "int" = false := by decide
  have i5 : isiD "tuple" "list" = false := by decide
  cases x with
  | ref p => exact hx.elim
  | int v => simp only [aSeq, aAsg, Tg.A, aVar, aC, aOp, aCons, aNil, aCall, aTup, aLst, aLstM, aFrz, aRet, aIfS, aNext, aDrop, aNever, aB, aAnd, aOr, aNot, aAndV, aOrV, aNotV, aIf, aCh, aNeg, aIsN, isN, oI0, oI, oEq, oIn, oIx, oAdd, oDIn, oDGet, oSub, oMod, oFdiv, oPow, oMul, oLt, oLe, oGt, oGe, pLe, pLt, see, items, cLen, cAll, cAny, cSorted, cSortedM, cSum, cMax, cMax2, cMin2, cList, cListM, cTuple, aIsi, aTupRg, aLstRg, oNone, oSome, aSl, aRev, aRevM, aBM, mAppend, mPopAt, mInsert, aDNew, aSetI, aSetD, aPar3, aAsgU, aLenSetS, aTabS, oIsB, mIndex, cMinT, aFor, aWhile, iSeq, seqOf, iRg1, iRg2, iZip, iEnum, aYes, aLc, aLcM, aPar, wipeD, setAll, tyD, eq_self, true_implies, false_implies, implies_true, and_true, true_and, ne_eq, not_false_eq_true, reduceCtorEq, Bool.not_true, Bool.not_false, ix30, ix32, at30, at31, at32, isiD_ii, isiD_bi, isiD_tt, isiD_ll, isiD_il, isiD_bl2, isiD_it, isiD_bt, isiD_st, isiD_sl, isiD_lt, isiD_si, isiD_li, isiD_bb, eqD_int, okD_i, List.set_cons_zero, List.set_cons_succ, List.getElem?_cons_zero, List.getElem?_cons_succ, List.length_cons, List.length_nil, List.map_cons, List.map_nil, Option.bind_some, put_same, Bool.xor_false, Bool.false_xor, i4, Bool.not_false]; exact ⟨by decide, Rt.same h⟩
  | non => simp only [aSeq, aAsg, Tg.A, aVar, aC, aOp, aCons, aNil, aCall, aTup, aLst, aLstM, aFrz, aRet, aIfS, aNext, aDrop, aNever, aB, aAnd, aOr, aNot, aAndV, aOrV, aNotV, aIf, aCh, aNeg, aIsN, isN, oI0, oI, oEq, oIn, oIx, oAdd, oDIn, oDGet, oSub, oMod, oFdiv, oPow, oMul, oLt, oLe, oGt, oGe, pLe, pLt, see, items, cLen, cAll, cAny, cSorted, cSortedM, cSum, cMax, cMax2, cMin2, cList, cListM, cTuple, aIsi, aTupRg, aLstRg, oNone, oSome, aSl, aRev, aRevM, aBM, mAppend, mPopAt, mInsert, aDNew, aSetI, aSetD, aPar3, aAsgU, aLenSetS, aTabS, oIsB, mIndex, cMinT, aFor, aWhile, iSeq, seqOf, iRg1, iRg2, iZip, iEnum, aYes, aLc, aLcM, aPar, wipeD, setAll, tyD, eq_self, true_implies, false_implies, implies_true, and_true, true_and, ne_eq, not_false_eq_true, reduceCtorEq, Bool.not_true, Bool.not_false, ix30, ix32, at30, at31, at32, isiD_ii, isiD_bi, isiD_tt, isiD_ll, isiD_il, isiD_bl2, isiD_it, isiD_bt, isiD_st, isiD_sl, isiD_lt, isiD_si, isiD_li, isiD_bb, eqD_int, okD_i, List.set_cons_zero, List.set_cons_succ, List.getElem?_cons_zero, List.getElem?_cons_succ, List.length_cons, List.length_nil, List.map_cons, List.map_nil, Option.bind_some, put_same, Bool.xor_false, Bool.false_xor, i1, Bool.not_false]; exact ⟨by decide, Rt.same h⟩
  | bl b => simp only [aSeq, aAsg, Tg.A, aVar, aC, aOp, aCons, aNil, aCall, aTup, aLst, aLstM, aFrz, aRet, aIfS, aNext, aDrop, aNever, aB, aAnd, aOr, aNot, aAndV, aOrV, aNotV, aIf, aCh, aNeg, aIsN, isN, oI0, oI, oEq, oIn, oIx, oAdd, oDIn, oDGet, oSub, oMod, oFdiv, oPow, oMul, oLt, oLe, oGt, oGe, pLe, pLt, see, items, cLen, cAll, cAny, cSorted, cSortedM, cSum, cMax, cMax2, cMin2, cList, cListM, cTuple, aIsi, aTupRg, aLstRg, oNone, oSome, aSl, aRev, aRevM, aBM, mAppend, mPopAt, mInsert, aDNew, aSetI, aSetD, aPar3, aAsgU, aLenSetS, aTabS, oIsB, mIndex, cMinT, aFor, aWhile, iSeq, seqOf, iRg1, iRg2, iZip, iEnum, aYes, aLc, aLcM, aPar, wipeD, setAll, tyD, eq_self, true_implies, false_implies, implies_true, and_true, true_and, ne_eq, not_false_eq_true, reduceCtorEq, Bool.not_true, Bool.not_false, ix30, ix32, at30, at31, at32, isiD_ii, isiD_bi, isiD_tt, isiD_ll, isiD_il, isiD_bl2, isiD_it, isiD_bt, isiD_st, isiD_sl, isiD_lt, isiD_si, isiD_li, isiD_bb, eqD_int, okD_i, List.set_cons_zero, List.set_cons_succ, List.getElem?_cons_zero, List.getElem?_cons_succ, List.length_cons, List.length_nil, List.map_cons, List.map_nil, Option.bind_some, put_same, Bool.xor_false, Bool.false_xor, i2, Bool.not_false]; exact ⟨by decide, Rt.same h⟩
  | str b => simp only [aSeq, aAsg, Tg.A, aVar, aC, aOp, aCons, aNil, aCall, aTup, aLst, aLstM, aFrz, aRet, aIfS, aNext, aDrop, aNever, aB, aAnd, aOr, aNot, aAndV, aOrV, aNotV, aIf, aCh, aNeg, aIsN, isN, oI0, oI, oEq, oIn, oIx, oAdd, oDIn, oDGet, oSub, oMod, oFdiv, oPow, oMul, oLt, oLe, oGt, oGe, pLe, pLt, see, items, cLen, cAll, cAny, cSorted, cSortedM, cSum, cMax, cMax2, cMin2, cList, cListM, cTuple, aIsi, aTupRg, aLstRg, oNone, oSome, aSl, aRev, aRevM, aBM, mAppend, mPopAt, mInsert, aDNew, aSetI, aSetD, aPar3, aAsgU, aLenSetS, aTabS, oIsB, mIndex, cMinT, aFor, aWhile, iSeq, seqOf, iRg1, iRg2, iZip, iEnum, aYes, aLc, aLcM, aPar, wipeD, setAll, tyD, eq_self, true_implies, false_implies, implies_true, and_true, true_and, ne_eq, not_false_eq_true, reduceCtorEq, Bool.not_true, Bool.not_false, ix30, ix32, at30, at31, at32, isiD_ii, isiD_bi, isiD_tt, isiD_ll, isiD_il, isiD_bl2, isiD_it, isiD_bt, isiD_st, isiD_sl, isiD_lt, isiD_si, isiD_li, isiD_bb, eqD_int, okD_i, List.set_cons_zero, List.set_cons_succ, List.getElem?_cons_zero, List.getElem?_cons_succ, List.length_cons, List.length_nil, List.map_cons, List.map_nil, Option.bind_some, put_same, Bool.xor_false, Bool.false_xor, i3, Bool.not_false]; exact ⟨by decide, Rt.same h⟩
  | lst b => simp only [aSeq, aAsg, Tg.A, aVar, aC, aOp, aCons, aNil, aCall, aTup, aLst, aLstM, aFrz, aRet, aIfS, aNext, aDrop, aNever, aB, aAnd, aOr, aNot, aAndV, aOrV, aNotV, aIf, aCh, aNeg, aIsN, isN, oI0, oI, oEq, oIn, oIx, oAdd, oDIn, oDGet, oSub, oMod, oFdiv, oPow, oMul, oLt, oLe, oGt, oGe, pLe, pLt, see, items, cLen, cAll, cAny, cSorted, cSortedM, cSum, cMax, cMax2, cMin2, cList, cListM, cTuple, aIsi, aTupRg, aLstRg, oNone, oSome, aSl, aRev, aRevM, aBM, mAppend, mPopAt, mInsert, aDNew, aSetI, aSetD, aPar3, aAsgU, aLenSetS, aTabS, oIsB, mIndex, cMinT, aFor, aWhile, iSeq, seqOf, iRg1, iRg2, iZip, iEnum, aYes, aLc, aLcM, aPar, wipeD, setAll, tyD, eq_self, true_implies, false_implies, implies_true, and_true, true_and, ne_eq, not_false_eq_true, reduceCtorEq, Bool.not_true, Bool.not_false, ix30, ix32, at30, at31, at32, isiD_ii, isiD_bi, isiD_tt, isiD_ll, isiD_il, isiD_bl2, isiD_it, isiD_bt, isiD_st, isiD_sl, isiD_lt, isiD_si, isiD_li, isiD_bb, eqD_int, okD_i, List.set_cons_zero, List.set_cons_succ, List.getElem?_cons_zero, List.getElem?_cons_succ, List.length_cons, List.length_nil, List.map_cons, List.map_nil, Option.bind_some, put_same, Bool.xor_false, Bool.false_xor, i5, Bool.not_false]; exact ⟨by decide, Rt.same h⟩
  | tup ds =>
    obtain ⟨hl, hp⟩ := hx
    simp only [aSeq, aAsg, Tg.A, aVar, aC, aOp, aCons, aNil, aCall, aTup, aLst, aLstM, aFrz, aRet, aIfS, aNext, aDrop, aNever, aB, aAnd, aOr, aNot, aAndV, aOrV, aNotV, aIf, aCh, aNeg, aIsN, isN, oI0, oI, oEq, oIn, oIx, oAdd, oDIn, oDGet, oSub, oMod, oFdiv, oPow, oMul, oLt, oLe, oGt, oGe, pLe, pLt, see, items, cLen, cAll, cAny, cSorted, cSortedM, cSum, cMax, cMax2, cMin2, cList, cListM, cTuple, aIsi, aTupRg, aLstRg, oNone, oSome, aSl, aRev, aRevM, aBM, mAppend, mPopAt, mInsert, aDNew, aSetI, aSetD, aPar3, aAsgU, aLenSetS, aTabS, oIsB, mIndex, cMinT, aFor, aWhile, iSeq, seqOf, iRg1, iRg2, iZip, iEnum, aYes, aLc, aLcM, aPar, wipeD, setAll, tyD, eq_self, true_implies, false_implies, implies_true, and_true, true_and, ne_eq, not_false_eq_true, reduceCtorEq, Bool.not_true, Bool.not_false, ix30, ix32, at30, at31, at32, isiD_ii, isiD_bi, isiD_tt, isiD_ll, isiD_il, isiD_bl2, isiD_it, isiD_bt, isiD_st, isiD_sl, isiD_lt, isiD_si, isiD_li, isiD_bb, eqD_int, okD_i, List.set_cons_zero, List.set_cons_succ, List.getElem?_cons_zero, List.getElem?_cons_succ, List.length_cons, List.length_nil, List.map_cons, List.map_nil, Option.bind_some, put_same, Bool.xor_false, Bool.false_xor]
    refine ⟨by decide, fun e => ?_, fun e => ?_⟩
    · have c : (decide (1 ≤ ds.length) && decide (ds.length ≤ 7)) = false := by
        rw [Bool.not_eq_true'] at e
        rw [← e, Bool.eq_iff_iff]
        simp only [Bool.and_eq_true, decide_eq_true_eq]
        omega
      have c2 : hidB (.tup ds) = ((decide (1 ≤ ds.length) && decide (ds.length ≤ 7)) && (ds.all (hidEl ds.length) && decide ((intsOf ds).length = lenSetI (intsOf ds)))) := rfl
      rw [c2, c] at h
      exact Rt.same h
    · have c : (decide (1 ≤ ds.length) && decide (ds.length ≤ 7)) = true := by
        rw [Bool.not_eq_false'] at e
        rw [← e, Bool.eq_iff_iff]
        simp only [Bool.and_eq_true, decide_eq_true_eq]
        omega
      have c2 : hidB (.tup ds) = ((decide (1 ≤ ds.length) && decide (ds.length ≤ 7)) && (ds.all (hidEl ds.length) && decide ((intsOf ds).length = lenSetI (intsOf ds)))) := rfl
      rw [c2, c, Bool.true_and] at h
      have e1 : (ds.map fun d => d) = ds := List.map_id _
      refine ⟨by omega, ?_⟩
      rw [← e1]
      refine lcA_map ds (fun d => d) (fun d => [.bl (hidEl ds.length d)]) (by simp) (fun d hd R hR => ?_) ?_
      · have hd2 := hp d hd
        cases d with
        | non => simp only [aSeq, aAsg, Tg.A, aVar, aC, aOp, aCons, aNil, aCall, aTup, aLst, aLstM, aFrz, aRet, aIfS, aNext, aDrop, aNever, aB, aAnd, aOr, aNot, aAndV, aOrV, aNotV, aIf, aCh, aNeg, aIsN, isN, oI0, oI, oEq, oIn, oIx, oAdd, oDIn, oDGet, oSub, oMod, oFdiv, oPow, oMul, oLt, oLe, oGt, oGe, pLe, pLt, see, items, cLen, cAll, cAny, cSorted, cSortedM, cSum, cMax, cMax2, cMin2, cList, cListM, cTuple, aIsi, aTupRg, aLstRg, oNone, oSome, aSl, aRev, aRevM, aBM, mAppend, mPopAt, mInsert, aDNew, aSetI, aSetD, aPar3, aAsgU, aLenSetS, aTabS, oIsB, mIndex, cMinT, aFor, aWhile, iSeq, seqOf, iRg1, iRg2, iZip, iEnum, aYes, aLc, aLcM, aPar, wipeD, setAll, tyD, eq_self, true_implies, false_implies, implies_true, and_true, true_and, ne_eq, not_false_eq_true, reduceCtorEq, Bool.not_true, Bool.not_false, ix30, ix32, at30, at31, at32, isiD_ii, isiD_bi, isiD_tt, isiD_ll, isiD_il, isiD_bl2, isiD_it, isiD_bt, isiD_st, isiD_sl, isiD_lt, isiD_si, isiD_li, isiD_bb, eqD_int, okD_i, List.set_cons_zero, List.set_cons_succ, List.getElem?_cons_zero, List.getElem?_cons_succ, List.length_cons, List.length_nil, List.map_cons, List.map_nil, Option.bind_some, put_same, Bool.xor_false, Bool.false_xor]; exact hR
        | _ => simp only [aSeq, aAsg, Tg.A, aVar, aC, aOp, aCons, aNil, aCall, aTup, aLst, aLstM, aFrz, aRet, aIfS, aNext, aDrop, aNever, aB, aAnd, aOr, aNot, aAndV, aOrV, aNotV, aIf, aCh, aNeg, aIsN, isN, oI0, oI, oEq, oIn, oIx, oAdd, oDIn, oDGet, oSub, oMod, oFdiv, oPow, oMul, oLt, oLe, oGt, oGe, pLe, pLt, see, items, cLen, cAll, cAny, cSorted, cSortedM, cSum, cMax, cMax2, cMin2, cList, cListM, cTuple, aIsi, aTupRg, aLstRg, oNone, oSome, aSl, aRev, aRevM, aBM, mAppend, mPopAt, mInsert, aDNew, aSetI, aSetD, aPar3, aAsgU, aLenSetS, aTabS, oIsB, mIndex, cMinT, aFor, aWhile, iSeq, seqOf, iRg1, iRg2, iZip, iEnum, aYes, aLc, aLcM, aPar, wipeD, setAll, tyD, eq_self, true_implies, false_implies, implies_true, and_true, true_and, ne_eq, not_false_eq_true, reduceCtorEq, Bool.not_true, Bool.not_false, ix30, ix32, at30, at31, at32, isiD_ii, isiD_bi, isiD_tt, isiD_ll, isiD_il, isiD_bl2, isiD_it, isiD_bt, isiD_st, isiD_sl, isiD_lt, isiD_si, isiD_li, isiD_bb, eqD_int, okD_i, List.set_cons_zero, List.set_cons_succ, List.getElem?_cons_zero, List.getElem?_cons_succ, List.length_cons, List.length_nil, List.map_cons, List.map_nil, Option.bind_some, put_same, Bool.xor_false, Bool.false_xor, A_is_from, List.length_map]; exact ⟨_, _, _, rfl, hd2, hR⟩
      · rw [flatMap_one, asBls_map]
        simp only [aSeq, aAsg, Tg.A, aVar, aC, aOp, aCons, aNil, aCall, aTup, aLst, aLstM, aFrz, aRet, aIfS, aNext, aDrop, aNever, aB, aAnd, aOr, aNot, aAndV, aOrV, aNotV, aIf, aCh, aNeg, aIsN, isN, oI0, oI, oEq, oIn, oIx, oAdd, oDIn, oDGet, oSub, oMod, oFdiv, oPow, oMul, oLt, oLe, oGt, oGe, pLe, pLt, see, items, cLen, cAll, cAny, cSorted, cSortedM, cSum, cMax, cMax2, cMin2, cList, cListM, cTuple, aIsi, aTupRg, aLstRg, oNone, oSome, aSl, aRev, aRevM, aBM, mAppend, mPopAt, mInsert, aDNew, aSetI, aSetD, aPar3, aAsgU, aLenSetS, aTabS, oIsB, mIndex, cMinT, aFor, aWhile, iSeq, seqOf, iRg1, iRg2, iZip, iEnum, aYes, aLc, aLcM, aPar, wipeD, setAll, tyD, eq_self, true_implies, false_implies, implies_true, and_true, true_and, ne_eq, not_false_eq_true, reduceCtorEq, Bool.not_true, Bool.not_false, ix30, ix32, at30, at31, at32, isiD_ii, isiD_bi, isiD_tt, isiD_ll, isiD_il, isiD_bl2, isiD_it, isiD_bt, isiD_st, isiD_sl, isiD_lt, isiD_si, isiD_li, isiD_bb, eqD_int, okD_i, List.set_cons_zero, List.set_cons_succ, List.getElem?_cons_zero, List.getElem?_cons_succ, List.length_cons, List.length_nil, List.map_cons, List.map_nil, Option.bind_some, put_same, Bool.xor_false, Bool.false_xor, e1]
        refine ⟨fun a => ?_, fun a => ⟨by omega, ?_⟩⟩
        · have a2 : ds.all (hidEl ds.length) = false := by
            rw [List.all_map] at a
            exact (Bool.not_eq_true' _).mp a
          rw [a2] at h
          exact Rt.same h
        · have a2 : ds.all (hidEl ds.length) = true := by
            rw [List.all_map] at a
            exact (Bool.not_eq_false' _).mp a
          rw [a2, Bool.true_and] at h
          rw [← e1]
          refine lcA_map ds (fun d => d) (fun d => if isN d then [] else [d]) (by simp) (fun d hd R hR => ?_) ?_
          · cases d with
            | non => simp only [aSeq, aAsg, Tg.A, aVar, aC, aOp, aCons, aNil, aCall, aTup, aLst, aLstM, aFrz, aRet, aIfS, aNext, aDrop, aNever, aB, aAnd, aOr, aNot, aAndV, aOrV, aNotV, aIf, aCh, aNeg, aIsN, isN, oI0, oI, oEq, oIn, oIx, oAdd, oDIn, oDGet, oSub, oMod, oFdiv, oPow, oMul, oLt, oLe, oGt, oGe, pLe, pLt, see, items, cLen, cAll, cAny, cSorted, cSortedM, cSum, cMax, cMax2, cMin2, cList, cListM, cTuple, aIsi, aTupRg, aLstRg, oNone, oSome, aSl, aRev, aRevM, aBM, mAppend, mPopAt, mInsert, aDNew, aSetI, aSetD, aPar3, aAsgU, aLenSetS, aTabS, oIsB, mIndex, cMinT, aFor, aWhile, iSeq, seqOf, iRg1, iRg2, iZip, iEnum, aYes, aLc, aLcM, aPar, wipeD, setAll, tyD, eq_self, true_implies, false_implies, implies_true, and_true, true_and, ne_eq, not_false_eq_true, reduceCtorEq, Bool.not_true, Bool.not_false, ix30, ix32, at30, at31, at32, isiD_ii, isiD_bi, isiD_tt, isiD_ll, isiD_il, isiD_bl2, isiD_it, isiD_bt, isiD_st, isiD_sl, isiD_lt, isiD_si, isiD_li, isiD_bb, eqD_int, okD_i, List.set_cons_zero, List.set_cons_succ, List.getElem?_cons_zero, List.getElem?_cons_succ, List.length_cons, List.length_nil, List.map_cons, List.map_nil, Option.bind_some, put_same, Bool.xor_false, Bool.false_xor]; exact ⟨fun b => (nomatch b), fun _ => hR⟩
            | _ => simp only [aSeq, aAsg, Tg.A, aVar, aC, aOp, aCons, aNil, aCall, aTup, aLst, aLstM, aFrz, aRet, aIfS, aNext, aDrop, aNever, aB, aAnd, aOr, aNot, aAndV, aOrV, aNotV, aIf, aCh, aNeg, aIsN, isN, oI0, oI, oEq, oIn, oIx, oAdd, oDIn, oDGet, oSub, oMod, oFdiv, oPow, oMul, oLt, oLe, oGt, oGe, pLe, pLt, see, items, cLen, cAll, cAny, cSorted, cSortedM, cSum, cMax, cMax2, cMin2, cList, cListM, cTuple, aIsi, aTupRg, aLstRg, oNone, oSome, aSl, aRev, aRevM, aBM, mAppend, mPopAt, mInsert, aDNew, aSetI, aSetD, aPar3, aAsgU, aLenSetS, aTabS, oIsB, mIndex, cMinT, aFor, aWhile, iSeq, seqOf, iRg1, iRg2, iZip, iEnum, aYes, aLc, aLcM, aPar, wipeD, setAll, tyD, eq_self, true_implies, false_implies, implies_true, and_true, true_and, ne_eq, not_false_eq_true, reduceCtorEq, Bool.not_true, Bool.not_false, ix30, ix32, at30, at31, at32, isiD_ii, isiD_bi, isiD_tt, isiD_ll, isiD_il, isiD_bl2, isiD_it, isiD_bt, isiD_st, isiD_sl, isiD_lt, isiD_si, isiD_li, isiD_bb, eqD_int, okD_i, List.set_cons_zero, List.set_cons_succ, List.getElem?_cons_zero, List.getElem?_cons_succ, List.length_cons, List.length_nil, List.map_cons, List.map_nil, Option.bind_some, put_same, Bool.xor_false, Bool.false_xor]; exact hR
          · rw [ints_kept a2]
            have hk := ints_len ds
            simp only [aLenSetI]
            simp only [aSeq, aAsg, Tg.A, aVar, aC, aOp, aCons, aNil, aCall, aTup, aLst, aLstM, aFrz, aRet, aIfS, aNext, aDrop, aNever, aB, aAnd, aOr, aNot, aAndV, aOrV, aNotV, aIf, aCh, aNeg, aIsN, isN, oI0, oI, oEq, oIn, oIx, oAdd, oDIn, oDGet, oSub, oMod, oFdiv, oPow, oMul, oLt, oLe, oGt, oGe, pLe, pLt, see, items, cLen, cAll, cAny, cSorted, cSortedM, cSum, cMax, cMax2, cMin2, cList, cListM, cTuple, aIsi, aTupRg, aLstRg, oNone, oSome, aSl, aRev, aRevM, aBM, mAppend, mPopAt, mInsert, aDNew, aSetI, aSetD, aPar3, aAsgU, aLenSetS, aTabS, oIsB, mIndex, cMinT, aFor, aWhile, iSeq, seqOf, iRg1, iRg2, iZip, iEnum, aYes, aLc, aLcM, aPar, wipeD, setAll, tyD, eq_self, true_implies, false_implies, implies_true, and_true, true_and, ne_eq, not_false_eq_true, reduceCtorEq, Bool.not_true, Bool.not_false, ix30, ix32, at30, at31, at32, isiD_ii, isiD_bi, isiD_tt, isiD_ll, isiD_il, isiD_bl2, isiD_it, isiD_bt, isiD_st, isiD_sl, isiD_lt, isiD_si, isiD_li, isiD_bb, eqD_int, okD_i, List.set_cons_zero, List.set_cons_succ, List.getElem?_cons_zero, List.getElem?_cons_succ, List.length_cons, List.length_nil, List.map_cons, List.map_nil, Option.bind_some, put_same, Bool.xor_false, Bool.false_xor, asInts_ints, List.length_map]
            refine ⟨by omega, Rt.same ?_⟩
            have e2 : decide (((intsOf ds).length : Int) = (lenSetI (intsOf ds) : Nat)) = decide ((intsOf ds).length = lenSetI (intsOf ds)) := by rw [Bool.eq_iff_iff, decide_eq_true_iff, decide_eq_true_iff]; omega
            rw [e2]
            exact h
/-! filled -/
abbrev N_filled : List Str := ["hidden", "found", "one", "more", "row", "number"]
theorem inner_ok {h : List (Option Int)} {fs : List (List Int)} {one : Option Int} {q : Addr} {c : ATT} {A : AEnds} {L : Lg} {x4 x5 : Option D} (hn : h.length ≤ 7) (hw : ∀ r ∈ fs, r.length ≤ 7) (hl : fs.length * h.length ≤ 900000)
    (hc : ∀ (row : List Int) (k : Int) (L2 : Lg) (N : Bool → Lg → Prop), N (ordC h one row k) L2 → c [some (.tup (h.map oD)), some (.lst (fs.map tD)), some (oD one), some (.ref q), some (tD row), some (.int k)] L2 N)
    (fin : ∀ x4 x5, A.nx [some (.tup (h.map oD)), some (.lst (fs.map tD)), some (oD one), some (.ref q), x4, x5] (put L q (.lst ((ordGo h fs one).map tD)))) :
    aFor (iSeq (aVar 1)) (.one 4) (aFor (iRg2 (aC (.int 1)) (aOp oAdd (aCall cLen (aCons (aVar 0) aNil)) (aC (.int 1)))) (.one 5) (aIfS c (aDrop (aBM mAppend (aVar 3) (aCons (aOp oAdd (aVar 4) (aTup (aCons (aVar 5) aNil))) aNil))) aNext)) A
      [some (.tup (h.map oD)), some (.lst (fs.map tD)), some (oD one), some (.ref q), x4, x5] (put L q (.lst [])) := by
  simp only [aSeq, aAsg, Tg.A, aVar, aC, aOp, aCons, aNil, aCall, aTup, aLst, aLstM, aFrz, aRet, aIfS, aNext, aDrop, aNever, aB, aAnd, aOr, aNot, aAndV, aOrV, aNotV, aIf, aCh, aNeg, aIsN, isN, oI0, oI, oEq, oIn, oIx, oAdd, oDIn, oDGet, oSub, oMod, oFdiv, oPow, oMul, oLt, oLe, oGt, oGe, pLe, pLt, see, items, cLen, cAll, cAny, cSorted, cSortedM, cSum, cMax, cMax2, cMin2, cList, cListM, cTuple, aIsi, aTupRg, aLstRg, oNone, oSome, aSl, aRev, aRevM, aBM, mAppend, mPopAt, mInsert, aDNew, aSetI, aSetD, aPar3, aAsgU, aLenSetS, aTabS, oIsB, mIndex, cMinT, aFor, aWhile, iSeq, seqOf, iRg1, iRg2, iZip, iEnum, aYes, aLc, aLcM, aPar, wipeD, setAll, tyD, eq_self, true_implies, false_implies, implies_true, and_true, true_and, ne_eq, not_false_eq_true, reduceCtorEq, Bool.not_true, Bool.not_false, ix30, ix32, at30, at31, at32, isiD_ii, isiD_bi, isiD_tt, isiD_ll, isiD_il, isiD_bl2, isiD_it, isiD_bt, isiD_st, isiD_sl, isiD_lt, isiD_si, isiD_li, isiD_bb, eqD_int, okD_i, List.set_cons_zero, List.set_cons_succ, List.getElem?_cons_zero, List.getElem?_cons_succ, List.length_cons, List.length_nil, List.map_cons, List.map_nil, Option.bind_some, put_same, Bool.xor_false, Bool.false_xor]
  refine forA_ind (fun j Δ L2 => ∃ x4 x5 : Option D, Δ = [some (.tup (h.map oD)), some (.lst (fs.map tD)), some (oD one), some (.ref q), x4, x5] ∧ L2 = put L q (.lst ((ordGo h (fs.take j) one).map tD)))
    (fun _ _ _ _ => trivial) (fun j d Δ L2 N e I hN => ?_) (fun Δ L2 I => ?_) ⟨_, _, rfl, rfl⟩
  · obtain ⟨x4, x5, rfl, rfl⟩ := I
    rw [List.getElem?_map] at e
    obtain ⟨row, hr, rfl⟩ := Option.map_eq_some_iff.mp e
    have hj : j < fs.length := (List.getElem?_eq_some_iff.mp hr).1
    simp only [aSeq, aAsg, Tg.A, aVar, aC, aOp, aCons, aNil, aCall, aTup, aLst, aLstM, aFrz, aRet, aIfS, aNext, aDrop, aNever, aB, aAnd, aOr, aNot, aAndV, aOrV, aNotV, aIf, aCh, aNeg, aIsN, isN, oI0, oI, oEq, oIn, oIx, oAdd, oDIn, oDGet, oSub, oMod, oFdiv, oPow, oMul, oLt, oLe, oGt, oGe, pLe, pLt, see, items, cLen, cAll, cAny, cSorted, cSortedM, cSum, cMax, cMax2, cMin2, cList, cListM, cTuple, aIsi, aTupRg, aLstRg, oNone, oSome, aSl, aRev, aRevM, aBM, mAppend, mPopAt, mInsert, aDNew, aSetI, aSetD, aPar3, aAsgU, aLenSetS, aTabS, oIsB, mIndex, cMinT, aFor, aWhile, iSeq, seqOf, iRg1, iRg2, iZip, iEnum, aYes, aLc, aLcM, aPar, wipeD, setAll, tyD, eq_self, true_implies, false_implies, implies_true, and_true, true_and, ne_eq, not_false_eq_true, reduceCtorEq, Bool.not_true, Bool.not_false, ix30, ix32, at30, at31, at32, isiD_ii, isiD_bi, isiD_tt, isiD_ll, isiD_il, isiD_bl2, isiD_it, isiD_bt, isiD_st, isiD_sl, isiD_lt, isiD_si, isiD_li, isiD_bb, eqD_int, okD_i, List.set_cons_zero, List.set_cons_succ, List.getElem?_cons_zero, List.getElem?_cons_succ, List.length_cons, List.length_nil, List.map_cons, List.map_nil, Option.bind_some, put_same, Bool.xor_false, Bool.false_xor, List.length_map]
    refine ⟨⟨by decide, by decide, by omega, by omega⟩, ?_⟩
    have et : ((h.length : Int) + 1 - 1).toNat = h.length := by omega
    rw [et]
    refine forA_ind (fun m Δ L3 => ∃ x5 : Option D, Δ = [some (.tup (h.map oD)), some (.lst (fs.map tD)), some (oD one), some (.ref q), some (tD row), x5] ∧ L3 = put L q (.lst ((ordGo h (fs.take j) one ++ (((rgI h.length).take m).filter (ordC h one row)).map (addOne row)).map tD)))
      (fun _ _ _ _ => trivial) (fun m d Δ L3 N3 e3 I3 hN3 => ?_) (fun Δ L3 I3 => ?_) ⟨_, rfl, by simp⟩
    · obtain ⟨x5, rfl, rfl⟩ := I3
      obtain ⟨hm, rfl⟩ := rgD_get e3
      simp only [aSeq, aAsg, Tg.A, aVar, aC, aOp, aCons, aNil, aCall, aTup, aLst, aLstM, aFrz, aRet, aIfS, aNext, aDrop, aNever, aB, aAnd, aOr, aNot, aAndV, aOrV, aNotV, aIf, aCh, aNeg, aIsN, isN, oI0, oI, oEq, oIn, oIx, oAdd, oDIn, oDGet, oSub, oMod, oFdiv, oPow, oMul, oLt, oLe, oGt, oGe, pLe, pLt, see, items, cLen, cAll, cAny, cSorted, cSortedM, cSum, cMax, cMax2, cMin2, cList, cListM, cTuple, aIsi, aTupRg, aLstRg, oNone, oSome, aSl, aRev, aRevM, aBM, mAppend, mPopAt, mInsert, aDNew, aSetI, aSetD, aPar3, aAsgU, aLenSetS, aTabS, oIsB, mIndex, cMinT, aFor, aWhile, iSeq, seqOf, iRg1, iRg2, iZip, iEnum, aYes, aLc, aLcM, aPar, wipeD, setAll, tyD, eq_self, true_implies, false_implies, implies_true, and_true, true_and, ne_eq, not_false_eq_true, reduceCtorEq, Bool.not_true, Bool.not_false, ix30, ix32, at30, at31, at32, isiD_ii, isiD_bi, isiD_tt, isiD_ll, isiD_il, isiD_bl2, isiD_it, isiD_bt, isiD_st, isiD_sl, isiD_lt, isiD_si, isiD_li, isiD_bb, eqD_int, okD_i, List.set_cons_zero, List.set_cons_succ, List.getElem?_cons_zero, List.getElem?_cons_succ, List.length_cons, List.length_nil, List.map_cons, List.map_nil, Option.bind_some, put_same, Bool.xor_false, Bool.false_xor]
      refine hc row _ _ _ ?_
      have hs := filt_snoc (p := ordC h one row) (rgI_get hm)
      have hlen : (ordGo h (fs.take j) one ++ (((rgI h.length).take m).filter (ordC h one row)).map (addOne row)).length < 1000000 := by
        have h1 := ordGo_len h (fs.take j) one
        have h2 := List.length_filter_le (ordC h one row) ((rgI h.length).take m)
        rw [List.length_take, rgI_len] at h2
        rw [List.length_take] at h1
        have h3 : min j fs.length * h.length ≤ fs.length * h.length := Nat.mul_le_mul_right _ (Nat.min_le_right ..)
        rw [List.length_append, List.length_map]
        omega
      cases hb : ordC h one row (1 + (m : Int)) with
      | false =>
        refine ⟨fun z => (nomatch z), fun _ => ?_⟩
        refine hN3 _ _ ⟨_, rfl, ?_⟩
        rw [hs, hb]
        simp
      | true =>
        refine ⟨fun _ => ?_, fun z => (nomatch z)⟩
        have hw1 := hw row (List.mem_of_getElem? hr)
        simp only [aSeq, aAsg, Tg.A, aVar, aC, aOp, aCons, aNil, aCall, aTup, aLst, aLstM, aFrz, aRet, aIfS, aNext, aDrop, aNever, aB, aAnd, aOr, aNot, aAndV, aOrV, aNotV, aIf, aCh, aNeg, aIsN, isN, oI0, oI, oEq, oIn, oIx, oAdd, oDIn, oDGet, oSub, oMod, oFdiv, oPow, oMul, oLt, oLe, oGt, oGe, pLe, pLt, see, items, cLen, cAll, cAny, cSorted, cSortedM, cSum, cMax, cMax2, cMin2, cList, cListM, cTuple, aIsi, aTupRg, aLstRg, oNone, oSome, aSl, aRev, aRevM, aBM, mAppend, mPopAt, mInsert, aDNew, aSetI, aSetD, aPar3, aAsgU, aLenSetS, aTabS, oIsB, mIndex, cMinT, aFor, aWhile, iSeq, seqOf, iRg1, iRg2, iZip, iEnum, aYes, aLc, aLcM, aPar, wipeD, setAll, tyD, eq_self, true_implies, false_implies, implies_true, and_true, true_and, ne_eq, not_false_eq_true, reduceCtorEq, Bool.not_true, Bool.not_false, ix30, ix32, at30, at31, at32, isiD_ii, isiD_bi, isiD_tt, isiD_ll, isiD_il, isiD_bl2, isiD_it, isiD_bt, isiD_st, isiD_sl, isiD_lt, isiD_si, isiD_li, isiD_bb, eqD_int, okD_i, List.set_cons_zero, List.set_cons_succ, List.getElem?_cons_zero, List.getElem?_cons_succ, List.length_cons, List.length_nil, List.map_cons, List.map_nil, Option.bind_some, put_same, Bool.xor_false, Bool.false_xor, tD]
        refine ⟨⟨_, rfl⟩, by decide, by rw [List.length_map]; omega, by rw [List.length_map]; exact hlen, ?_⟩
        rw [put_put]
        refine hN3 _ _ ⟨_, rfl, ?_⟩
        rw [hs, hb, if_pos rfl]
        congr 2
        simp only [List.map_append, List.map_cons, List.map_nil, addOne, tD, List.append_assoc]
    · obtain ⟨x5, rfl, rfl⟩ := I3
      rw [rgD_len]
      refine hN _ _ ⟨_, _, rfl, ?_⟩
      rw [ordGo_snoc hr]
      have : (rgI h.length).take h.length = rgI h.length := by rw [List.take_of_length_le]; rw [rgI_len]; exact Nat.le_refl _
      rw [this]
  · obtain ⟨x4, x5, rfl, rfl⟩ := I
    rw [List.length_map, List.take_length]
    exact fin _ _
def A_filled : ASp := fun ds L K => ∃ h : List (Option Int), ds = [.tup (h.map oD)] ∧ hidB (.tup (h.map oD)) = true ∧ h.length ≤ 7 ∧ K (.tup [.int (fillsOf h).length, firstD (fillsOf h)]) L
def t_filled : ATS :=
  (aSeq (aIfS (aNot (aB (aCall A_is_hidden (aCons (aVar 0) aNil)))) aNever aNext)
  (aSeq (aAsg (aLst (aCons (aTup aNil) aNil)) (.one 1))
  (aSeq (aFor (iSeq (aVar 0)) (.one 2) (aSeq (aAsg (aLstM aNil) (.one 3))
  (aSeq (aFor (iSeq (aVar 1)) (.one 4) (aFor (iRg2 (aC (.int 1)) (aOp oAdd (aCall cLen (aCons (aVar 0) aNil)) (aC (.int 1)))) (.one 5) (aIfS (aAnd (aB (aOp (oIn true) (aVar 5) (aVar 4))) (aOr (aB (aOp (oEq false) (aVar 2) (aVar 5))) (aAnd (aB (aIsN false (aVar 2))) (aB (aOp (oIn true) (aVar 5) (aVar 0)))))) (aDrop (aBM mAppend (aVar 3) (aCons (aOp oAdd (aVar 4) (aTup (aCons (aVar 5) aNil))) aNil))) aNext)))
  (aAsg (aLc (iSeq (aVar 3)) (.one 4) (aB (aCall A_is_woven (aCons (aVar 4) aNil))) (aVar 4) [4]) (.one 1)))))
  (aRet (aTup (aCons (aCall cLen (aCons (aVar 1) aNil)) (aCons (aIf (aB (aOp (oEq true) (aVar 1) (aLst aNil))) (aOp oIx (aVar 1) (aC (.int 0))) (aC .non)) aNil)))))))
theorem r_filled {ds : List D} {L : Lg} {Kk : AK} (h : A_filled ds L Kk) : t_filled { nx := fun _ L' => Rt Kk .non L', rt := Rt Kk } (startD N_filled ds) L := by
  obtain ⟨h, rfl, hh, hn, hK⟩ := h
  show t_filled _ [some (.tup (h.map oD)), none, none, none, none, none] L
  unfold t_filled
  simp only [aSeq, aAsg, Tg.A, aVar, aC, aOp, aCons, aNil, aCall, aTup, aLst, aLstM, aFrz, aRet, aIfS, aNext, aDrop, aNever, aB, aAnd, aOr, aNot, aAndV, aOrV, aNotV, aIf, aCh, aNeg, aIsN, isN, oI0, oI, oEq, oIn, oIx, oAdd, oDIn, oDGet, oSub, oMod, oFdiv, oPow, oMul, oLt, oLe, oGt, oGe, pLe, pLt, see, items, cLen, cAll, cAny, cSorted, cSortedM, cSum, cMax, cMax2, cMin2, cList, cListM, cTuple, aIsi, aTupRg, aLstRg, oNone, oSome, aSl, aRev, aRevM, aBM, mAppend, mPopAt, mInsert, aDNew, aSetI, aSetD, aPar3, aAsgU, aLenSetS, aTabS, oIsB, mIndex, cMinT, aFor, aWhile, iSeq, seqOf, iRg1, iRg2, iZip, iEnum, aYes, aLc, aLcM, aPar, wipeD, setAll, tyD, eq_self, true_implies, false_implies, implies_true, and_true, true_and, ne_eq, not_false_eq_true, reduceCtorEq, Bool.not_true, Bool.not_false, ix30, ix32, at30, at31, at32, isiD_ii, isiD_bi, isiD_tt, isiD_ll, isiD_il, isiD_bl2, isiD_it, isiD_bt, isiD_st, isiD_sl, isiD_lt, isiD_si, isiD_li, isiD_bb, eqD_int, okD_i, List.set_cons_zero, List.set_cons_succ, List.getElem?_cons_zero, List.getElem?_cons_succ, List.length_cons, List.length_nil, List.map_cons, List.map_nil, Option.bind_some, put_same, Bool.xor_false, Bool.false_xor, A_is_hidden]
  refine ⟨_, rfl, ⟨by rw [List.length_map]; omega, fun d hd => ?_⟩, ?_⟩
  · obtain ⟨o, _, rfl⟩ := List.mem_map.mp hd
    cases o <;> trivial
  rw [hh]
  simp only [aSeq, aAsg, Tg.A, aVar, aC, aOp, aCons, aNil, aCall, aTup, aLst, aLstM, aFrz, aRet, aIfS, aNext, aDrop, aNever, aB, aAnd, aOr, aNot, aAndV, aOrV, aNotV, aIf, aCh, aNeg, aIsN, isN, oI0, oI, oEq, oIn, oIx, oAdd, oDIn, oDGet, oSub, oMod, oFdiv, oPow, oMul, oLt, oLe, oGt, oGe, pLe, pLt, see, items, cLen, cAll, cAny, cSorted, cSortedM, cSum, cMax, cMax2, cMin2, cList, cListM, cTuple, aIsi, aTupRg, aLstRg, oNone, oSome, aSl, aRev, aRevM, aBM, mAppend, mPopAt, mInsert, aDNew, aSetI, aSetD, aPar3, aAsgU, aLenSetS, aTabS, oIsB, mIndex, cMinT, aFor, aWhile, iSeq, seqOf, iRg1, iRg2, iZip, iEnum, aYes, aLc, aLcM, aPar, wipeD, setAll, tyD, eq_self, true_implies, false_implies, implies_true, and_true, true_and, ne_eq, not_false_eq_true, reduceCtorEq, Bool.not_true, Bool.not_false, ix30, ix32, at30, at31, at32, isiD_ii, isiD_bi, isiD_tt, isiD_ll, isiD_il, isiD_bl2, isiD_it, isiD_bt, isiD_st, isiD_sl, isiD_lt, isiD_si, isiD_li, isiD_bb, eqD_int, okD_i, List.set_cons_zero, List.set_cons_succ, List.getElem?_cons_zero, List.getElem?_cons_succ, List.length_cons, List.length_nil, List.map_cons, List.map_nil, Option.bind_some, put_same, Bool.xor_false, Bool.false_xor]
  refine ⟨by decide, by decide, ?_⟩
  refine forA_ind (fun i Δ L' => ∃ x2 x3 x4 x5 : Option D, Δ = [some (.tup (h.map oD)), some (.lst ((fillTo h i).map tD)), x2, x3, x4, x5] ∧ Sub L L') (fun _ _ _ _ => trivial) (fun i d Δ L' N e I hN => ?_) (fun Δ L' I => ?_) ⟨_, _, _, _, rfl, Sub.refl L⟩
  · obtain ⟨x2, x3, x4, x5, rfl, hs⟩ := I
    rw [List.getElem?_map] at e
    obtain ⟨one, ho, rfl⟩ := Option.map_eq_some_iff.mp e
    have hi : i < h.length := (List.getElem?_eq_some_iff.mp ho).1
    have hin := fillTo_in i (Nat.le_of_lt hi)
    have hfl := fillTo_len i (Nat.le_of_lt hi)
    have hl : (fillTo h i).length * h.length ≤ 900000 := by
      have h1 := pow7 (i := i + 1) hn (by omega)
      rw [Nat.pow_succ] at h1
      have h2 := Nat.mul_le_mul_right h.length hfl
      omega
    simp only [aSeq, aAsg, aLstM, aNil, Tg.A, List.length_nil, List.set_cons_zero, List.set_cons_succ]
    refine ⟨by decide, fun q hq => ?_⟩
    refine inner_ok hn (fun r hr => by have := (hin r hr).1; omega) hl (fun row k L2 N2 h2 => ?_) (fun x4 x5 => ?_)
    · unfold ordC at h2
      cases one with
      | none =>
        have n1 : eqD .non (.int k) = false := rfl
        have n0 : okD 64 .non = true := rfl
        simp only [aSeq, aAsg, Tg.A, aVar, aC, aOp, aCons, aNil, aCall, aTup, aLst, aLstM, aFrz, aRet, aIfS, aNext, aDrop, aNever, aB, aAnd, aOr, aNot, aAndV, aOrV, aNotV, aIf, aCh, aNeg, aIsN, isN, oI0, oI, oEq, oIn, oIx, oAdd, oDIn, oDGet, oSub, oMod, oFdiv, oPow, oMul, oLt, oLe, oGt, oGe, pLe, pLt, see, items, cLen, cAll, cAny, cSorted, cSortedM, cSum, cMax, cMax2, cMin2, cList, cListM, cTuple, aIsi, aTupRg, aLstRg, oNone, oSome, aSl, aRev, aRevM, aBM, mAppend, mPopAt, mInsert, aDNew, aSetI, aSetD, aPar3, aAsgU, aLenSetS, aTabS, oIsB, mIndex, cMinT, aFor, aWhile, iSeq, seqOf, iRg1, iRg2, iZip, iEnum, aYes, aLc, aLcM, aPar, wipeD, setAll, tyD, eq_self, true_implies, false_implies, implies_true, and_true, true_and, ne_eq, not_false_eq_true, reduceCtorEq, Bool.not_true, Bool.not_false, ix30, ix32, at30, at31, at32, isiD_ii, isiD_bi, isiD_tt, isiD_ll, isiD_il, isiD_bl2, isiD_it, isiD_bt, isiD_st, isiD_sl, isiD_lt, isiD_si, isiD_li, isiD_bb, eqD_int, okD_i, List.set_cons_zero, List.set_cons_succ, List.getElem?_cons_zero, List.getElem?_cons_succ, List.length_cons, List.length_nil, List.map_cons, List.map_nil, Option.bind_some, put_same, Bool.xor_false, Bool.false_xor, tD, oD, isN, n0, n1, okIn, inD_int, flat_ints, flat_oD, inD_oD, flatD, Bool.and_true, Bool.true_and]
        by_cases m1 : k ∈ row <;> by_cases m4 : some k ∈ h <;> simp [m1, m4] at h2 ⊢ <;> exact h2
      | some v =>
        simp only [aSeq, aAsg, Tg.A, aVar, aC, aOp, aCons, aNil, aCall, aTup, aLst, aLstM, aFrz, aRet, aIfS, aNext, aDrop, aNever, aB, aAnd, aOr, aNot, aAndV, aOrV, aNotV, aIf, aCh, aNeg, aIsN, isN, oI0, oI, oEq, oIn, oIx, oAdd, oDIn, oDGet, oSub, oMod, oFdiv, oPow, oMul, oLt, oLe, oGt, oGe, pLe, pLt, see, items, cLen, cAll, cAny, cSorted, cSortedM, cSum, cMax, cMax2, cMin2, cList, cListM, cTuple, aIsi, aTupRg, aLstRg, oNone, oSome, aSl, aRev, aRevM, aBM, mAppend, mPopAt, mInsert, aDNew, aSetI, aSetD, aPar3, aAsgU, aLenSetS, aTabS, oIsB, mIndex, cMinT, aFor, aWhile, iSeq, seqOf, iRg1, iRg2, iZip, iEnum, aYes, aLc, aLcM, aPar, wipeD, setAll, tyD, eq_self, true_implies, false_implies, implies_true, and_true, true_and, ne_eq, not_false_eq_true, reduceCtorEq, Bool.not_true, Bool.not_false, ix30, ix32, at30, at31, at32, isiD_ii, isiD_bi, isiD_tt, isiD_ll, isiD_il, isiD_bl2, isiD_it, isiD_bt, isiD_st, isiD_sl, isiD_lt, isiD_si, isiD_li, isiD_bb, eqD_int, okD_i, List.set_cons_zero, List.set_cons_succ, List.getElem?_cons_zero, List.getElem?_cons_succ, List.length_cons, List.length_nil, List.map_cons, List.map_nil, Option.bind_some, put_same, Bool.xor_false, Bool.false_xor, tD, oD, isN, okIn, inD_int, flat_ints, flat_oD, inD_oD, flatD, Bool.and_true, Bool.true_and]
        by_cases m1 : k ∈ row <;> by_cases m2 : v = k <;> simp [m1, m2] at h2 ⊢ <;> exact h2
    · simp only [aSeq, aAsg, Tg.A, aVar, aC, aOp, aCons, aNil, aCall, aTup, aLst, aLstM, aFrz, aRet, aIfS, aNext, aDrop, aNever, aB, aAnd, aOr, aNot, aAndV, aOrV, aNotV, aIf, aCh, aNeg, aIsN, isN, oI0, oI, oEq, oIn, oIx, oAdd, oDIn, oDGet, oSub, oMod, oFdiv, oPow, oMul, oLt, oLe, oGt, oGe, pLe, pLt, see, items, cLen, cAll, cAny, cSorted, cSortedM, cSum, cMax, cMax2, cMin2, cList, cListM, cTuple, aIsi, aTupRg, aLstRg, oNone, oSome, aSl, aRev, aRevM, aBM, mAppend, mPopAt, mInsert, aDNew, aSetI, aSetD, aPar3, aAsgU, aLenSetS, aTabS, oIsB, mIndex, cMinT, aFor, aWhile, iSeq, seqOf, iRg1, iRg2, iZip, iEnum, aYes, aLc, aLcM, aPar, wipeD, setAll, tyD, eq_self, true_implies, false_implies, implies_true, and_true, true_and, ne_eq, not_false_eq_true, reduceCtorEq, Bool.not_true, Bool.not_false, ix30, ix32, at30, at31, at32, isiD_ii, isiD_bi, isiD_tt, isiD_ll, isiD_il, isiD_bl2, isiD_it, isiD_bt, isiD_st, isiD_sl, isiD_lt, isiD_si, isiD_li, isiD_bb, eqD_int, okD_i, List.set_cons_zero, List.set_cons_succ, List.getElem?_cons_zero, List.getElem?_cons_succ, List.length_cons, List.length_nil, List.map_cons, List.map_nil, Option.bind_some, put_same, Bool.xor_false, Bool.false_xor, put_same]
      have hgl : (ordGo h (fillTo h i) one).length ≤ 1000000 := Nat.le_trans (ordGo_len ..) (Nat.le_trans hl (by decide))
      refine ⟨by rw [List.length_map]; exact hgl, ?_⟩
      refine lcA_map (ordGo h (fillTo h i) one) tD (fun r => if wovenB r then [tD r] else []) put_same (fun r hr R hR => ?_) ?_
      · have hr2 := (ordGo_in hin r hr).1
        simp only [aSeq, aAsg, Tg.A, aVar, aC, aOp, aCons, aNil, aCall, aTup, aLst, aLstM, aFrz, aRet, aIfS, aNext, aDrop, aNever, aB, aAnd, aOr, aNot, aAndV, aOrV, aNotV, aIf, aCh, aNeg, aIsN, isN, oI0, oI, oEq, oIn, oIx, oAdd, oDIn, oDGet, oSub, oMod, oFdiv, oPow, oMul, oLt, oLe, oGt, oGe, pLe, pLt, see, items, cLen, cAll, cAny, cSorted, cSortedM, cSum, cMax, cMax2, cMin2, cList, cListM, cTuple, aIsi, aTupRg, aLstRg, oNone, oSome, aSl, aRev, aRevM, aBM, mAppend, mPopAt, mInsert, aDNew, aSetI, aSetD, aPar3, aAsgU, aLenSetS, aTabS, oIsB, mIndex, cMinT, aFor, aWhile, iSeq, seqOf, iRg1, iRg2, iZip, iEnum, aYes, aLc, aLcM, aPar, wipeD, setAll, tyD, eq_self, true_implies, false_implies, implies_true, and_true, true_and, ne_eq, not_false_eq_true, reduceCtorEq, Bool.not_true, Bool.not_false, ix30, ix32, at30, at31, at32, isiD_ii, isiD_bi, isiD_tt, isiD_ll, isiD_il, isiD_bl2, isiD_it, isiD_bt, isiD_st, isiD_sl, isiD_lt, isiD_si, isiD_li, isiD_bb, eqD_int, okD_i, List.set_cons_zero, List.set_cons_succ, List.getElem?_cons_zero, List.getElem?_cons_succ, List.length_cons, List.length_nil, List.map_cons, List.map_nil, Option.bind_some, put_same, Bool.xor_false, Bool.false_xor, A_is_woven, tD]
        refine ⟨r, rfl, by omega, fun b => ?_, fun b => ?_⟩
        · rw [if_pos b] at hR; exact hR
        · rw [if_neg (by rw [b]; exact Bool.false_ne_true)] at hR; exact hR
      · rw [flatMap_if]
        have hst : (ordGo h (fillTo h i) one).filter wovenB = fillTo h (i + 1) := by unfold fillTo; rw [fold_snoc ho]; rfl
        rw [hst]
        exact hN _ _ ⟨_, _, _, _, rfl, hs.trans (Sub.put hq)⟩
  · obtain ⟨x2, x3, x4, x5, rfl, hs⟩ := I
    rw [List.length_map, fillTo_all]
    have hK2 : Rt Kk (D.tup [D.int ((fillsOf h).length : Nat), firstD (fillsOf h)]) L' := Rt.of hs hK
    have ok1 : okD 64 (D.lst ((fillsOf h).map tD)) = true := okDs_map _ (fun r => okD_tints r 62) _
    have ok2 : okD 64 (D.lst []) = true := rfl
    simp only [aSeq, aAsg, Tg.A, aVar, aC, aOp, aCons, aNil, aCall, aTup, aLst, aLstM, aFrz, aRet, aIfS, aNext, aDrop, aNever, aB, aAnd, aOr, aNot, aAndV, aOrV, aNotV, aIf, aCh, aNeg, aIsN, isN, oI0, oI, oEq, oIn, oIx, oAdd, oDIn, oDGet, oSub, oMod, oFdiv, oPow, oMul, oLt, oLe, oGt, oGe, pLe, pLt, see, items, cLen, cAll, cAny, cSorted, cSortedM, cSum, cMax, cMax2, cMin2, cList, cListM, cTuple, aIsi, aTupRg, aLstRg, oNone, oSome, aSl, aRev, aRevM, aBM, mAppend, mPopAt, mInsert, aDNew, aSetI, aSetD, aPar3, aAsgU, aLenSetS, aTabS, oIsB, mIndex, cMinT, aFor, aWhile, iSeq, seqOf, iRg1, iRg2, iZip, iEnum, aYes, aLc, aLcM, aPar, wipeD, setAll, tyD, eq_self, true_implies, false_implies, implies_true, and_true, true_and, ne_eq, not_false_eq_true, reduceCtorEq, Bool.not_true, Bool.not_false, ix30, ix32, at30, at31, at32, isiD_ii, isiD_bi, isiD_tt, isiD_ll, isiD_il, isiD_bl2, isiD_it, isiD_bt, isiD_st, isiD_sl, isiD_lt, isiD_si, isiD_li, isiD_bb, eqD_int, okD_i, List.set_cons_zero, List.set_cons_succ, List.getElem?_cons_zero, List.getElem?_cons_succ, List.length_cons, List.length_nil, List.map_cons, List.map_nil, Option.bind_some, put_same, Bool.xor_false, Bool.false_xor, List.length_map, ok1, ok2, eqD_nil, List.isEmpty_map]
    refine ⟨by decide, ?_⟩
    cases hf : fillsOf h with
    | nil =>
      rw [hf] at hK2
      exact ⟨fun a => (nomatch a), fun _ => ⟨by decide, hK2⟩⟩
    | cons r rs =>
      rw [hf] at hK2
      have e0 : atI (List.map tD (r :: rs)) 0 = some (tD r) := atI_nat (i := 0) rfl
      rw [e0]
      exact ⟨fun _ => ⟨by decide, hK2⟩, fun a => (nomatch a)⟩
/-! Laid_init -/
abbrev N_Laid_init : List Str := ["self"]
def A_Laid_init (CL : Addr) : ASp := fun ds L K => ∃ p : Addr, ds = [.ref p] ∧ L p = some (.ins CL []) ∧ K .non (put L p (.ins CL [("row", .tup [])]))
def t_Laid_init (CL : Addr) : ATS :=
  (aSetF CL "row" (aTup aNil) (aVar 0))
theorem r_Laid_init {CL : Addr} {ds : List D} {L : Lg} {Kk : AK} (h : A_Laid_init CL ds L Kk) : t_Laid_init CL { nx := fun _ L' => Rt Kk .non L', rt := Rt Kk } (startD N_Laid_init ds) L := by
  obtain ⟨p, rfl, hp, h⟩ := h
  show t_Laid_init CL _ [some (.ref p)] L
  unfold t_Laid_init
  simp only [aSeq, aAsg, Tg.A, aVar, aC, aOp, aCons, aNil, aCall, aTup, aLst, aLstM, aFrz, aRet, aIfS, aNext, aDrop, aNever, aB, aAnd, aOr, aNot, aAndV, aOrV, aNotV, aIf, aCh, aNeg, aIsN, isN, oI0, oI, oEq, oIn, oIx, oAdd, oDIn, oDGet, oSub, oMod, oFdiv, oPow, oMul, oLt, oLe, oGt, oGe, pLe, pLt, see, items, cLen, cAll, cAny, cSorted, cSortedM, cSum, cMax, cMax2, cMin2, cList, cListM, cTuple, aIsi, aTupRg, aLstRg, oNone, oSome, aSl, aRev, aRevM, aBM, mAppend, mPopAt, mInsert, aDNew, aSetI, aSetD, aPar3, aAsgU, aLenSetS, aTabS, oIsB, mIndex, cMinT, aFor, aWhile, iSeq, seqOf, iRg1, iRg2, iZip, iEnum, aYes, aLc, aLcM, aPar, wipeD, setAll, tyD, eq_self, true_implies, false_implies, implies_true, and_true, true_and, ne_eq, not_false_eq_true, reduceCtorEq, Bool.not_true, Bool.not_false, ix30, ix32, at30, at31, at32, isiD_ii, isiD_bi, isiD_tt, isiD_ll, isiD_il, isiD_bl2, isiD_it, isiD_bt, isiD_st, isiD_sl, isiD_lt, isiD_si, isiD_li, isiD_bb, eqD_int, okD_i, List.set_cons_zero, List.set_cons_succ, List.getElem?_cons_zero, List.getElem?_cons_succ, List.length_cons, List.length_nil, List.map_cons, List.map_nil, Option.bind_some, put_same, Bool.xor_false, Bool.false_xor, aSetF]
  exact ⟨by decide, p, [], rfl, hp, by decide, Rt.same h⟩
/-! Laid_lay -/
abbrev N_Laid_lay : List Str := ["self", "card", "more", "four"]
def laidC (CL : Addr) (r : List Int) : Cell := .ins CL [("row", .tup (r.map .int))]
def Lays (r : List Int) (c : Int) : Prop := Row (r ++ [c]) ∧ r.length < 40
def A_Laid_lay (CL : Addr) : ASp := fun ds L K => ∃ (p : Addr) (r : List Int) (c : Int), ds = [.ref p, .int c] ∧ L p = some (laidC CL r) ∧ Lays r c ∧ fourWith (r ++ [c]) r.length = none ∧ K .non (put L p (laidC CL (r ++ [c])))
def Bad_Laid_lay (CL : Addr) : List D → Lg → D → Prop := fun ds L d => ∃ (p : Addr) (r : List Int) (c : Int) (q : List Int), ds = [.ref p, .int c] ∧ L p = some (laidC CL r) ∧ Lays r c ∧ fourWith (r ++ [c]) r.length = some q ∧ d = .tup (q.map .int)
theorem fld_row {CL p : Addr} {r : List Int} {Δ : Sg} {L : Lg} {K : AK} (hp : L p = some (laidC CL r)) : aFld CL "row" (aVar 0) (some (.ref p) :: Δ) L K = K (.tup (r.map .int)) L := by
  refine propext ⟨fun h => ?_, fun h => ?_⟩
  · obtain ⟨p', fs, v, e, hL, hl, k⟩ := h
    cases e
    rw [hp] at hL
    unfold laidC at hL
    cases hL
    cases hl
    exact k
  · exact ⟨p, _, _, rfl, hp, rfl, h⟩
def t_Laid_lay (CL : Addr) : ATS :=
  (aSeq (aIfS (aNot (aB (aCall A_is_from (aCons (aVar 1) (aCons (aC (.int 0)) (aCons (aC (.int 1000000000)) aNil)))))) aNever aNext)
  (aSeq (aIfS (aB (aOp (oIn false) (aVar 1) (aFld CL "row" (aVar 0)))) aNever aNext)
  (aSeq (aIfS (aB (aOp (oEq false) (aCall cLen (aCons (aFld CL "row" (aVar 0)) aNil)) (aC (.int 40)))) aNever aNext)
  (aSeq (aAsg (aOp oAdd (aFld CL "row" (aVar 0)) (aTup (aCons (aVar 1) aNil))) (.one 2))
  (aSeq (aAsg (aCall A_four_with (aCons (aVar 2) (aCons (aCall cLen (aCons (aFld CL "row" (aVar 0)) aNil)) aNil))) (.one 3))
  (aSeq (aIfS (aB (aIsN true (aVar 3))) aNever aNext)
  (aSetF CL "row" (aVar 2) (aVar 0))))))))
theorem r_Laid_lay {CL : Addr} {ds : List D} {L : Lg} {Kk : AK} (h : A_Laid_lay CL ds L Kk) : t_Laid_lay CL { nx := fun _ L' => Rt Kk .non L', rt := Rt Kk } (startD N_Laid_lay ds) L := by
  obtain ⟨p, r, c, rfl, hp, hl, hf, h⟩ := h
  show t_Laid_lay CL _ [some (.ref p), some (.int c), none, none] L
  unfold t_Laid_lay
  have hc : fromD (.int c) 0 1000000000 = true := by
    have := hl.1.rng c (by simp)
    unfold fromD; simp; omega
  simp only [aSeq, aAsg, Tg.A, aVar, aC, aOp, aCons, aNil, aCall, aTup, aLst, aLstM, aFrz, aRet, aIfS, aNext, aDrop, aNever, aB, aAnd, aOr, aNot, aAndV, aOrV, aNotV, aIf, aCh, aNeg, aIsN, isN, oI0, oI, oEq, oIn, oIx, oAdd, oDIn, oDGet, oSub, oMod, oFdiv, oPow, oMul, oLt, oLe, oGt, oGe, pLe, pLt, see, items, cLen, cAll, cAny, cSorted, cSortedM, cSum, cMax, cMax2, cMin2, cList, cListM, cTuple, aIsi, aTupRg, aLstRg, oNone, oSome, aSl, aRev, aRevM, aBM, mAppend, mPopAt, mInsert, aDNew, aSetI, aSetD, aPar3, aAsgU, aLenSetS, aTabS, oIsB, mIndex, cMinT, aFor, aWhile, iSeq, seqOf, iRg1, iRg2, iZip, iEnum, aYes, aLc, aLcM, aPar, wipeD, setAll, tyD, eq_self, true_implies, false_implies, implies_true, and_true, true_and, ne_eq, not_false_eq_true, reduceCtorEq, Bool.not_true, Bool.not_false, ix30, ix32, at30, at31, at32, isiD_ii, isiD_bi, isiD_tt, isiD_ll, isiD_il, isiD_bl2, isiD_it, isiD_bt, isiD_st, isiD_sl, isiD_lt, isiD_si, isiD_li, isiD_bb, eqD_int, okD_i, List.set_cons_zero, List.set_cons_succ, List.getElem?_cons_zero, List.getElem?_cons_succ, List.length_cons, List.length_nil, List.map_cons, List.map_nil, Option.bind_some, put_same, Bool.xor_false, Bool.false_xor, A_is_from]
  refine ⟨_, _, _, rfl, trivial, ?_⟩
  have hnr : c ∉ r := fun z => by
    have := hl.1.nd
    rw [List.nodup_append] at this
    exact this.2.2 c z c (by simp) rfl
  have hne : decide ((r.length : Int) = 40) = false := decide_eq_false (by have := hl.2; omega)
  have happ : r.map D.int ++ [.int c] = (r ++ [c]).map .int := by rw [List.map_append]; rfl
  have hd0 : decide (c ∈ r) = false := decide_eq_false hnr
  simp only [aSeq, aAsg, Tg.A, aVar, aC, aOp, aCons, aNil, aCall, aTup, aLst, aLstM, aFrz, aRet, aIfS, aNext, aDrop, aNever, aB, aAnd, aOr, aNot, aAndV, aOrV, aNotV, aIf, aCh, aNeg, aIsN, isN, oI0, oI, oEq, oIn, oIx, oAdd, oDIn, oDGet, oSub, oMod, oFdiv, oPow, oMul, oLt, oLe, oGt, oGe, pLe, pLt, see, items, cLen, cAll, cAny, cSorted, cSortedM, cSum, cMax, cMax2, cMin2, cList, cListM, cTuple, aIsi, aTupRg, aLstRg, oNone, oSome, aSl, aRev, aRevM, aBM, mAppend, mPopAt, mInsert, aDNew, aSetI, aSetD, aPar3, aAsgU, aLenSetS, aTabS, oIsB, mIndex, cMinT, aFor, aWhile, iSeq, seqOf, iRg1, iRg2, iZip, iEnum, aYes, aLc, aLcM, aPar, wipeD, setAll, tyD, eq_self, true_implies, false_implies, implies_true, and_true, true_and, ne_eq, not_false_eq_true, reduceCtorEq, Bool.not_true, Bool.not_false, ix30, ix32, at30, at31, at32, isiD_ii, isiD_bi, isiD_tt, isiD_ll, isiD_il, isiD_bl2, isiD_it, isiD_bt, isiD_st, isiD_sl, isiD_lt, isiD_si, isiD_li, isiD_bb, eqD_int, okD_i, List.set_cons_zero, List.set_cons_succ, List.getElem?_cons_zero, List.getElem?_cons_succ, List.length_cons, List.length_nil, List.map_cons, List.map_nil, Option.bind_some, put_same, Bool.xor_false, Bool.false_xor, hc, fld_row hp, okIn, flat_ints, flatD, inD_int, List.length_map, hne, hd0, happ, Bool.and_true, A_four_with]
  have hl2 := hl.2
  refine ⟨by decide, by omega, r ++ [c], r.length, rfl, by rw [List.length_append, List.length_singleton]; omega, by rw [List.length_append, List.length_singleton]; omega, ?_⟩
  rw [hf]
  refine ⟨fun a => (nomatch a), fun _ => ?_⟩
  exact ⟨p, [("row", .tup (r.map .int))], rfl, hp, (by show (1 : Nat) < 1000; decide), Rt.same h⟩
/-! Laid_can_be_laid -/
abbrev N_Laid_can_be_laid : List Str := ["self", "found", "low", "card"]
def laidGo (r : List Int) (x : List (Int × Int) × Int) (c : Int) : List (Int × Int) × Int := (if x.2 < c ∧ wovenB (r ++ [x.2]) = true then x.1 ++ [(x.2, c - 1)] else x.1, c + 1)
def laidTo (r : List Int) (i : Nat) : List (Int × Int) × Int := ((isort r ++ [1000000001]).take i).foldl (laidGo r) ([], 0)
def laidR (r : List Int) : List (Int × Int) := ((isort r ++ [1000000001]).foldl (laidGo r) ([], 0)).1
theorem laidTo_len (r : List Int) : ∀ i, (laidTo r i).1.length ≤ i
  | 0 => by simp [laidTo]
  | i + 1 => by
    have ih := laidTo_len r i
    cases e : (isort r ++ [1000000001])[i]? with
    | none =>
      have : laidTo r (i + 1) = laidTo r i := by
        unfold laidTo
        rw [List.take_add_one, e]
        simp
      rw [this]; omega
    | some c =>
      have : laidTo r (i + 1) = laidGo r (laidTo r i) c := by unfold laidTo; rw [fold_snoc e]
      rw [this]
      unfold laidGo
      split
      · rw [List.length_append, List.length_singleton]; omega
      · show (laidTo r i).1.length ≤ i + 1; omega
def A_Laid_can_be_laid (CL : Addr) : ASp := fun ds L K => ∃ (p : Addr) (r : List Int), ds = [.ref p] ∧ L p = some (laidC CL r) ∧ r.length < 40 ∧ K (.lst ((laidR r).map pD)) L
def t_Laid_can_be_laid (CL : Addr) : ATS :=
  (aSeq (aAsg (aLstM aNil) (.one 1))
  (aSeq (aAsg (aC (.int 0)) (.one 2))
  (aSeq (aFor (iSeq (aOp oAdd (aCall cSorted (aCons (aFld CL "row" (aVar 0)) aNil)) (aLst (aCons (aOp oAdd (aC (.int 1000000000)) (aC (.int 1))) aNil)))) (.one 3) (aSeq (aIfS (aAnd (aB (aOp oLt (aVar 2) (aVar 3))) (aB (aCall A_is_woven (aCons (aOp oAdd (aFld CL "row" (aVar 0)) (aTup (aCons (aVar 2) aNil))) aNil)))) (aDrop (aBM mAppend (aVar 1) (aCons (aTup (aCons (aVar 2) (aCons (aOp oSub (aVar 3) (aC (.int 1))) aNil))) aNil))) aNext)
  (aAsg (aOp oAdd (aVar 3) (aC (.int 1))) (.one 2))))
  (aRet (aFrz (aVar 1))))))
theorem r_Laid_can_be_laid {CL : Addr} {ds : List D} {L : Lg} {Kk : AK} (h : A_Laid_can_be_laid CL ds L Kk) : t_Laid_can_be_laid CL { nx := fun _ L' => Rt Kk .non L', rt := Rt Kk } (startD N_Laid_can_be_laid ds) L := by
  obtain ⟨p, r, rfl, hp, hl, h⟩ := h
  show t_Laid_can_be_laid CL _ [some (.ref p), none, none, none] L
  unfold t_Laid_can_be_laid
  simp only [aSeq, aAsg, Tg.A, aVar, aC, aOp, aCons, aNil, aCall, aTup, aLst, aLstM, aFrz, aRet, aIfS, aNext, aDrop, aNever, aB, aAnd, aOr, aNot, aAndV, aOrV, aNotV, aIf, aCh, aNeg, aIsN, isN, oI0, oI, oEq, oIn, oIx, oAdd, oDIn, oDGet, oSub, oMod, oFdiv, oPow, oMul, oLt, oLe, oGt, oGe, pLe, pLt, see, items, cLen, cAll, cAny, cSorted, cSortedM, cSum, cMax, cMax2, cMin2, cList, cListM, cTuple, aIsi, aTupRg, aLstRg, oNone, oSome, aSl, aRev, aRevM, aBM, mAppend, mPopAt, mInsert, aDNew, aSetI, aSetD, aPar3, aAsgU, aLenSetS, aTabS, oIsB, mIndex, cMinT, aFor, aWhile, iSeq, seqOf, iRg1, iRg2, iZip, iEnum, aYes, aLc, aLcM, aPar, wipeD, setAll, tyD, eq_self, true_implies, false_implies, implies_true, and_true, true_and, ne_eq, not_false_eq_true, reduceCtorEq, Bool.not_true, Bool.not_false, ix30, ix32, at30, at31, at32, isiD_ii, isiD_bi, isiD_tt, isiD_ll, isiD_il, isiD_bl2, isiD_it, isiD_bt, isiD_st, isiD_sl, isiD_lt, isiD_si, isiD_li, isiD_bb, eqD_int, okD_i, List.set_cons_zero, List.set_cons_succ, List.getElem?_cons_zero, List.getElem?_cons_succ, List.length_cons, List.length_nil, List.map_cons, List.map_nil, Option.bind_some, put_same, Bool.xor_false, Bool.false_xor]
  refine ⟨by decide, fun f hf => ?_⟩
  have hfp : p ≠ f := fun e => by rw [e, hf] at hp; cases hp
  have hp1 : put L f (.lst []) p = some (laidC CL r) := by rw [put_ne hfp]; exact hp
  simp only [aSeq, aAsg, Tg.A, aVar, aC, aOp, aCons, aNil, aCall, aTup, aLst, aLstM, aFrz, aRet, aIfS, aNext, aDrop, aNever, aB, aAnd, aOr, aNot, aAndV, aOrV, aNotV, aIf, aCh, aNeg, aIsN, isN, oI0, oI, oEq, oIn, oIx, oAdd, oDIn, oDGet, oSub, oMod, oFdiv, oPow, oMul, oLt, oLe, oGt, oGe, pLe, pLt, see, items, cLen, cAll, cAny, cSorted, cSortedM, cSum, cMax, cMax2, cMin2, cList, cListM, cTuple, aIsi, aTupRg, aLstRg, oNone, oSome, aSl, aRev, aRevM, aBM, mAppend, mPopAt, mInsert, aDNew, aSetI, aSetD, aPar3, aAsgU, aLenSetS, aTabS, oIsB, mIndex, cMinT, aFor, aWhile, iSeq, seqOf, iRg1, iRg2, iZip, iEnum, aYes, aLc, aLcM, aPar, wipeD, setAll, tyD, eq_self, true_implies, false_implies, implies_true, and_true, true_and, ne_eq, not_false_eq_true, reduceCtorEq, Bool.not_true, Bool.not_false, ix30, ix32, at30, at31, at32, isiD_ii, isiD_bi, isiD_tt, isiD_ll, isiD_il, isiD_bl2, isiD_it, isiD_bt, isiD_st, isiD_sl, isiD_lt, isiD_si, isiD_li, isiD_bb, eqD_int, okD_i, List.set_cons_zero, List.set_cons_succ, List.getElem?_cons_zero, List.getElem?_cons_succ, List.length_cons, List.length_nil, List.map_cons, List.map_nil, Option.bind_some, put_same, Bool.xor_false, Bool.false_xor, fld_row hp1, asInts_ints, List.length_map]
  have happ : (isort r).map D.int ++ [.int (1000000000 + 1)] = (isort r ++ [1000000001]).map .int := by rw [List.map_append]; rfl
  rw [happ]
  have hil : (isort r).length = r.length := (isort_perm r).length_eq
  refine ⟨by omega, by decide, by omega, ?_⟩
  refine forA_ind (fun i Δ L' => ∃ x3 : Option D, Δ = [some (.ref p), some (.ref f), some (.int (laidTo r i).2), x3] ∧ L' = put L f (.lst ((laidTo r i).1.map pD))) (fun _ _ _ _ => trivial) (fun i d Δ L' N e I hN => ?_) (fun Δ L' I => ?_) ⟨_, rfl, rfl⟩
  · obtain ⟨x3, rfl, rfl⟩ := I
    rw [List.getElem?_map] at e
    obtain ⟨c, hc, rfl⟩ := Option.map_eq_some_iff.mp e
    have hi : i < (isort r ++ [1000000001]).length := (List.getElem?_eq_some_iff.mp hc).1
    rw [List.length_append, List.length_singleton] at hi
    have hst : laidTo r (i + 1) = laidGo r (laidTo r i) c := by unfold laidTo; rw [fold_snoc hc]
    have hlen := laidTo_len r i
    generalize laidTo r i = x at hst hlen
    have hp2 : put L f (.lst (x.1.map pD)) p = some (laidC CL r) := by rw [put_ne hfp]; exact hp
    have hap2 : r.map D.int ++ [.int x.2] = (r ++ [x.2]).map .int := by rw [List.map_append]; rfl
    simp only [aSeq, aAsg, Tg.A, aVar, aC, aOp, aCons, aNil, aCall, aTup, aLst, aLstM, aFrz, aRet, aIfS, aNext, aDrop, aNever, aB, aAnd, aOr, aNot, aAndV, aOrV, aNotV, aIf, aCh, aNeg, aIsN, isN, oI0, oI, oEq, oIn, oIx, oAdd, oDIn, oDGet, oSub, oMod, oFdiv, oPow, oMul, oLt, oLe, oGt, oGe, pLe, pLt, see, items, cLen, cAll, cAny, cSorted, cSortedM, cSum, cMax, cMax2, cMin2, cList, cListM, cTuple, aIsi, aTupRg, aLstRg, oNone, oSome, aSl, aRev, aRevM, aBM, mAppend, mPopAt, mInsert, aDNew, aSetI, aSetD, aPar3, aAsgU, aLenSetS, aTabS, oIsB, mIndex, cMinT, aFor, aWhile, iSeq, seqOf, iRg1, iRg2, iZip, iEnum, aYes, aLc, aLcM, aPar, wipeD, setAll, tyD, eq_self, true_implies, false_implies, implies_true, and_true, true_and, ne_eq, not_false_eq_true, reduceCtorEq, Bool.not_true, Bool.not_false, ix30, ix32, at30, at31, at32, isiD_ii, isiD_bi, isiD_tt, isiD_ll, isiD_il, isiD_bl2, isiD_it, isiD_bt, isiD_st, isiD_sl, isiD_lt, isiD_si, isiD_li, isiD_bb, eqD_int, okD_i, List.set_cons_zero, List.set_cons_succ, List.getElem?_cons_zero, List.getElem?_cons_succ, List.length_cons, List.length_nil, List.map_cons, List.map_nil, Option.bind_some, put_same, Bool.xor_false, Bool.false_xor, fld_row hp2, hap2, A_is_woven]
    refine ⟨fun a => ⟨by decide, by rw [List.length_map]; omega, r ++ [x.2], rfl, by rw [List.length_append, List.length_singleton]; omega, fun b => ?_, fun b => ?_⟩, fun a => ?_⟩
    · have hx : laidGo r x c = (x.1 ++ [(x.2, c - 1)], c + 1) := by unfold laidGo; rw [if_pos ⟨of_decide_eq_true a, b⟩]
      refine ⟨⟨_, rfl⟩, by decide, by rw [List.length_map]; omega, hN _ _ ⟨some (.int c), ?_, ?_⟩⟩
      · rw [hst, hx]
      · rw [hst, hx, put_put, List.map_append]; rfl
    · have hx : laidGo r x c = (x.1, c + 1) := by unfold laidGo; rw [if_neg (fun z => by rw [b] at z; cases z.2)]
      refine hN _ _ ⟨some (.int c), ?_, ?_⟩
      · rw [hst, hx]
      · rw [hst, hx]
    · have hx : laidGo r x c = (x.1, c + 1) := by unfold laidGo; rw [if_neg (fun z => of_decide_eq_false a z.1)]
      refine hN _ _ ⟨some (.int c), ?_, ?_⟩
      · rw [hst, hx]
      · rw [hst, hx]
  · obtain ⟨x3, rfl, rfl⟩ := I
    rw [List.length_map]
    have hall : laidTo r (isort r ++ [1000000001]).length = (isort r ++ [1000000001]).foldl (laidGo r) ([], 0) := by unfold laidTo; rw [List.take_length]
    rw [hall]
    simp only [aSeq, aAsg, Tg.A, aVar, aC, aOp, aCons, aNil, aCall, aTup, aLst, aLstM, aFrz, aRet, aIfS, aNext, aDrop, aNever, aB, aAnd, aOr, aNot, aAndV, aOrV, aNotV, aIf, aCh, aNeg, aIsN, isN, oI0, oI, oEq, oIn, oIx, oAdd, oDIn, oDGet, oSub, oMod, oFdiv, oPow, oMul, oLt, oLe, oGt, oGe, pLe, pLt, see, items, cLen, cAll, cAny, cSorted, cSortedM, cSum, cMax, cMax2, cMin2, cList, cListM, cTuple, aIsi, aTupRg, aLstRg, oNone, oSome, aSl, aRev, aRevM, aBM, mAppend, mPopAt, mInsert, aDNew, aSetI, aSetD, aPar3, aAsgU, aLenSetS, aTabS, oIsB, mIndex, cMinT, aFor, aWhile, iSeq, seqOf, iRg1, iRg2, iZip, iEnum, aYes, aLc, aLcM, aPar, wipeD, setAll, tyD, eq_self, true_implies, false_implies, implies_true, and_true, true_and, ne_eq, not_false_eq_true, reduceCtorEq, Bool.not_true, Bool.not_false, ix30, ix32, at30, at31, at32, isiD_ii, isiD_bi, isiD_tt, isiD_ll, isiD_il, isiD_bl2, isiD_it, isiD_bt, isiD_st, isiD_sl, isiD_lt, isiD_si, isiD_li, isiD_bb, eqD_int, okD_i, List.set_cons_zero, List.set_cons_succ, List.getElem?_cons_zero, List.getElem?_cons_succ, List.length_cons, List.length_nil, List.map_cons, List.map_nil, Option.bind_some, put_same, Bool.xor_false, Bool.false_xor, del_put hf]
    exact Rt.same h
/-! _law_deck -/
abbrev N__law_deck : List Str := ["cell", "turn"]
def A__law_deck : ASp := fun ds L K => ∃ x t : Int, ds = [.int x, .int t] ∧ 0 ≤ t ∧ ∀ p C, L p = none → Deck t C → K (.ref p) (put L p C)
def t__law_deck : ATS :=
  (aSeq (aIfS (aB (aOp oGe (aVar 0) (aOp oPow (aC (.int 10)) (aC (.int 18))))) (aRet (aLstM (aCons (aOp oSub (aVar 0) (aOp oPow (aC (.int 10)) (aC (.int 18)))) (aCons (aOp oMod (aVar 0) (aC (.int 2147483579))) (aCons (aVar 1) aNil))))) aNext)
  (aRet (aLstM (aCons (aC (.int 0)) (aCons (aOp oMod (aVar 0) (aC (.int 2147483579))) (aCons (aVar 1) aNil))))))
theorem r__law_deck {ds : List D} {L : Lg} {Kk : AK} (h : A__law_deck ds L Kk) : t__law_deck { nx := fun _ L' => Rt Kk .non L', rt := Rt Kk } (startD N__law_deck ds) L := by
  obtain ⟨x, t, rfl, ht, h⟩ := h
  show t__law_deck _ [some (.int x), some (.int t)] L
  unfold t__law_deck
  have e1 : CPow 10 18 := ⟨by decide, by decide, by decide⟩
  simp only [aSeq, aAsg, Tg.A, aVar, aC, aOp, aCons, aNil, aCall, aTup, aLst, aLstM, aFrz, aRet, aIfS, aNext, aDrop, aNever, aB, aAnd, aOr, aNot, aAndV, aOrV, aNotV, aIf, aCh, aNeg, aIsN, isN, oI0, oI, oEq, oIn, oIx, oAdd, oDIn, oDGet, oSub, oMod, oFdiv, oPow, oMul, oLt, oLe, oGt, oGe, pLe, pLt, see, items, cLen, cAll, cAny, cSorted, cSortedM, cSum, cMax, cMax2, cMin2, cList, cListM, cTuple, aIsi, aTupRg, aLstRg, oNone, oSome, aSl, aRev, aRevM, aBM, mAppend, mPopAt, mInsert, aDNew, aSetI, aSetD, aPar3, aAsgU, aLenSetS, aTabS, oIsB, mIndex, cMinT, aFor, aWhile, iSeq, seqOf, iRg1, iRg2, iZip, iEnum, aYes, aLc, aLcM, aPar, wipeD, setAll, tyD, eq_self, true_implies, false_implies, implies_true, and_true, true_and, ne_eq, not_false_eq_true, reduceCtorEq, Bool.not_true, Bool.not_false, ix30, ix32, at30, at31, at32, isiD_ii, isiD_bi, isiD_tt, isiD_ll, isiD_il, isiD_bl2, isiD_it, isiD_bt, isiD_st, isiD_sl, isiD_lt, isiD_si, isiD_li, isiD_bb, eqD_int, okD_i, List.set_cons_zero, List.set_cons_succ, List.getElem?_cons_zero, List.getElem?_cons_succ, List.length_cons, List.length_nil, List.map_cons, List.map_nil, Option.bind_some, put_same, Bool.xor_false, Bool.false_xor, e1]
  have h1 := Int.emod_nonneg x (b := 2147483579) (by decide)
  have h2 := Int.emod_lt_of_pos x (b := 2147483579) (by decide)
  refine ⟨fun _ => ⟨by decide, by simp, fun p hp => ?_⟩, fun _ => ⟨by decide, by simp, fun p hp => ?_⟩⟩
  · exact Rt.same (h p _ hp ⟨_, _, _, rfl, h1, h2, ht, Int.le_refl _⟩)
  · exact Rt.same (h p _ hp ⟨_, _, _, rfl, h1, h2, ht, Int.le_refl _⟩)
/-! _law_pick -/
abbrev N__law_pick : List Str := ["deck", "size", "found", "number"]
def A__law_pick : ASp := fun ds L K => ∃ (p : Addr) (size n : Int) (C : Cell), ds = [.ref p, .int size] ∧ L p = some C ∧ Deck n C ∧ n ≤ 100000 ∧ 1 ≤ size ∧ size ≤ 1000000001 ∧
  ∀ r C', 0 ≤ r → r < size → Deck (n + 1) C' → K (.int r) (put L p C')
def t__law_pick : ATS :=
  (aSeq (aIfS (aB (aOp oGt (aOp oIx (aVar 0) (aC (.int 0))) (aC (.int 1)))) (aSeq (aAsg (aOp oMod (aOp oIx (aVar 0) (aC (.int 0))) (aVar 1)) (.one 2))
  (aSeq (aSetI (aOp oFdiv (aOp oIx (aVar 0) (aC (.int 0))) (aVar 1)) (aVar 0) (aC (.int 0)))
  (aRet (aVar 2)))) aNext)
  (aSeq (aSetI (aOp oAdd (aOp oIx (aVar 0) (aC (.int 2))) (aC (.int 1))) (aVar 0) (aC (.int 2)))
  (aSeq (aAsg (aOp oMod (aOp oPow (aOp oAdd (aOp oIx (aVar 0) (aC (.int 1))) (aOp oMul (aC (.int 15485867)) (aOp oIx (aVar 0) (aC (.int 2))))) (aC (.int 5))) (aC (.int 2147483647))) (.one 3))
  (aSeq (aAsg (aOp oFdiv (aOp oMod (aOp oPow (aOp oAdd (aVar 3) (aOp oMul (aC (.int 7919)) (aOp oIx (aVar 0) (aC (.int 2))))) (aC (.int 3))) (aC (.int 2147483629))) (aC (.int 32))) (.one 2))
  (aRet (aOp oMod (aVar 2) (aVar 1)))))))
theorem r__law_pick {ds : List D} {L : Lg} {Kk : AK} (h : A__law_pick ds L Kk) : t__law_pick { nx := fun _ L' => Rt Kk .non L', rt := Rt Kk } (startD N__law_pick ds) L := by
  obtain ⟨p, size, n, C, rfl, hp, ⟨a, b, c, rfl, hb, hb2, hc, hc2⟩, hn, hs, hs2, h⟩ := h
  show t__law_pick _ [some (.ref p), some (.int size), none, none] L
  unfold t__law_pick
  simp only [aSeq, aAsg, Tg.A, aVar, aC, aOp, aCons, aNil, aCall, aTup, aLst, aLstM, aFrz, aRet, aIfS, aNext, aDrop, aNever, aB, aAnd, aOr, aNot, aAndV, aOrV, aNotV, aIf, aCh, aNeg, aIsN, isN, oI0, oI, oEq, oIn, oIx, oAdd, oDIn, oDGet, oSub, oMod, oFdiv, oPow, oMul, oLt, oLe, oGt, oGe, pLe, pLt, see, items, cLen, cAll, cAny, cSorted, cSortedM, cSum, cMax, cMax2, cMin2, cList, cListM, cTuple, aIsi, aTupRg, aLstRg, oNone, oSome, aSl, aRev, aRevM, aBM, mAppend, mPopAt, mInsert, aDNew, aSetI, aSetD, aPar3, aAsgU, aLenSetS, aTabS, oIsB, mIndex, cMinT, aFor, aWhile, iSeq, seqOf, iRg1, iRg2, iZip, iEnum, aYes, aLc, aLcM, aPar, wipeD, setAll, tyD, eq_self, true_implies, false_implies, implies_true, and_true, true_and, ne_eq, not_false_eq_true, reduceCtorEq, Bool.not_true, Bool.not_false, ix30, ix32, at30, at31, at32, isiD_ii, isiD_bi, isiD_tt, isiD_ll, isiD_il, isiD_bl2, isiD_it, isiD_bt, isiD_st, isiD_sl, isiD_lt, isiD_si, isiD_li, isiD_bb, eqD_int, okD_i, List.set_cons_zero, List.set_cons_succ, List.getElem?_cons_zero, List.getElem?_cons_succ, List.length_cons, List.length_nil, List.map_cons, List.map_nil, Option.bind_some, put_same, Bool.xor_false, Bool.false_xor, hp]
  refine ⟨fun e => ?_, fun e => ?_⟩
  · refine ⟨by omega, ⟨by omega, by omega⟩, Rt.same (h _ _ (Int.emod_nonneg _ (by omega)) (Int.emod_lt_of_pos _ (by omega)) ⟨_, _, _, rfl, hb, hb2, hc, by omega⟩)⟩
  · have h1 := Int.emod_nonneg ((b + 15485867 * (c + 1)) ^ (5 : Int).toNat) (b := 2147483647) (by decide)
    have h2 := Int.emod_lt_of_pos ((b + 15485867 * (c + 1)) ^ (5 : Int).toNat) (b := 2147483647) (by decide)
    refine ⟨.inl ⟨by decide, by decide⟩, ⟨by decide, by decide, ?_⟩, by decide, .inl ⟨by decide, by decide⟩, ⟨by decide, by decide, ?_⟩, by decide, ⟨by decide, by decide⟩, by omega, ?_⟩
    · omega
    · generalize (b + 15485867 * (c + 1)) ^ (5 : Int).toNat % 2147483647 = z at *
      omega
    · exact Rt.same (h _ _ (Int.emod_nonneg _ (by omega)) (Int.emod_lt_of_pos _ (by omega)) ⟨_, _, _, rfl, hb, hb2, by omega, by omega⟩)
/-! law -/
abbrev N_law : List Str := ["script", "cell", "deck", "many", "order", "out", "k", "later", "laid", "card"]
theorem seq_cut {t u : ATS} {A : AEnds} {Δ : Sg} {L : Lg} (P : Sg → Lg → Prop) (h1 : ∀ N : Sg → Lg → Prop, (∀ Δ' L', P Δ' L' → N Δ' L') → t { A with nx := N } Δ L) (h2 : ∀ Δ' L', P Δ' L' → u A Δ' L') : aSeq t u A Δ L := h1 _ h2
theorem ne_same {x y d : D} {L : Lg} {K : AK} (hx : see L x = d) (hy : see L y = d) (ok : okD 64 d = true) (k : K (.bl false) L) : oEq true x y L K := by
  refine ⟨by rw [hx]; exact ok, by rw [hy]; exact ok, ?_⟩
  rw [hx, hy, eqD_refl]
  exact k
def A_law (PT : Addr) : ASp := fun ds L K => ∃ ns : List Int, ds = [.lst (ns.map .int)] ∧ ns.length ≤ 63 ∧ L PT = some (.tab QN) ∧ ∀ L', K (.bl true) L'
theorem see_i {L : Lg} {i : Int} : see L (.int i) = .int i := rfl
theorem see_t {L : Lg} {ds : List D} : see L (.tup ds) = .tup ds := rfl
theorem see_l {L : Lg} {ds : List D} : see L (.lst ds) = .lst ds := rfl
theorem see_s {L : Lg} {x : Str} : see L (.str x) = .str x := rfl
theorem see_r {L : Lg} {p : Addr} {ds : List D} (h : L p = some (.lst ds)) : see L (.ref p) = .lst ds := by
  show (match L p with | some (.lst ds) => D.lst ds | _ => D.ref p) = _
  rw [h]
theorem okD_strs {xs : List Str} (h : ∀ x ∈ xs, PyData.strOk x = true) : okD 64 (.tup (xs.map .str)) = true := by
  have key : ∀ xs : List Str, (∀ x ∈ xs, PyData.strOk x = true) → okDs 63 (xs.map .str) = true := fun xs => by
    induction xs with
    | nil => intro _; rfl
    | cons x xs ih =>
      intro h
      show (PyData.strOk x && okDs 63 (xs.map .str)) = true
      rw [h x (List.mem_cons_self ..), ih fun y hy => h y (List.mem_cons_of_mem _ hy)]
      rfl
  exact key xs h
theorem rep_flat {d : D} (n : Nat) : (List.replicate n [d]).flatten = List.replicate n d := by
  induction n with
  | zero => rfl
  | succ n ih => rw [List.replicate_succ, List.flatten_cons, ih]; rfl
theorem lk_none {f : Str} {d : D} (h : (f == ("row" : Str)) = false) : List.lookup f [(("row" : Str), d)] = none := by simp [List.lookup, h]
theorem partD_head {ps : List (List Bool)} {m : List Bool} (h : ps.head? = some m) : partD ps = maskD m := by
  cases ps with
  | nil => cases h
  | cons a as => cases h; rfl
theorem ord_row {n : Nat} (h : n < 38) : Row (ordR (n + 3)) := range_row (by omega) (by omega)
theorem ord_len (n : Nat) : (ordR n).length = n := by unfold ordR; rw [List.length_map, List.length_range]
theorem out_len (n : Nat) : (outR n).length = n := by unfold outR; rw [List.length_map, List.length_range]
theorem out_Row {n : Nat} (h : n < 38) : Row (outR (n + 3)) := ⟨by rw [out_len]; omega, by rw [out_len]; omega, (out_row n h).1, (out_row n h).2⟩
def t_law (PT : Addr) (CL : Addr) : ATS :=
  (aSeq (aFor (iSeq (aSl (aOp oAdd (aLst (aCons (aC (.int 0)) aNil)) (aVar 0)) oNone (oSome (aC (.int 4))))) (.one 1) (aSeq (aAsg (aCall A__law_deck (aCons (aVar 1) (aCons (aC (.int 13)) aNil))) (.one 2))
  (aSeq (aAsg (aOp oAdd (aC (.int 3)) (aCall A__law_pick (aCons (aVar 2) (aCons (aC (.int 38)) aNil)))) (.one 3))
  (aSeq (aAsg (aTupRg (aVar 3)) (.one 4))
  (aSeq (aIfS (aOr (aB (aOp (oEq true) (aCall A_how_many (aCons (aVar 4) aNil)) (aOp oAdd (aVar 3) (aC (.int 1))))) (aB (aOp (oEq true) (aCall A_sides (aCons (aVar 4) aNil)) (aOp oRepT (aTup (aCons (aC (.str "either")) aNil)) (aVar 3))))) (aRet (aC (.bl false))) aNext)
  (aSeq (aIfS (aB (aOp (oEq true) (aCall A_seams (aCons (aVar 4) aNil)) (aLst (aCons (aC (.int 0)) (aCons (aC (.int 1)) (aCons (aOp oSub (aVar 3) (aC (.int 1))) aNil)))))) (aRet (aC (.bl false))) aNext)
  (aSeq (aIfS (aOr (aB (aOp (oEq true) (aCall A_parting (aCons (aVar 4) aNil)) (aOp oAdd (aTup (aCons (aC (.str "down")) aNil)) (aOp oRepT (aTup (aCons (aC (.str "up")) aNil)) (aOp oSub (aVar 3) (aC (.int 1))))))) (aB (aOp (oEq true) (aCall A_how_many (aCons (aRev (aVar 4)) aNil)) (aOp oAdd (aVar 3) (aC (.int 1)))))) (aRet (aC (.bl false))) aNext)
  (aSeq (aAsg (aCall cTuple (aCons (aLc (iRg1 (aVar 3)) (.one 6) aYes (aIf (aB (aOp (oEq false) (aOp oMod (aVar 6) (aC (.int 2))) (aC (.int 0)))) (aOp oAdd (aC (.int 50)) (aOp oFdiv (aVar 6) (aC (.int 2)))) (aOp oSub (aC (.int 49)) (aOp oFdiv (aVar 6) (aC (.int 2))))) [6]) aNil)) (.one 5))
  (aSeq (aAsg (aCall cTuple (aCons (aLc (iRg2 (aC (.int 2)) (aVar 3)) (.one 6) aYes (aOp oIx (aLst (aCons (aC (.str "up")) (aCons (aC (.str "down")) aNil))) (aOp oMod (aVar 6) (aC (.int 2)))) [6]) aNil)) (.one 7))
  (aSeq (aIfS (aOr (aB (aOp (oEq true) (aCall A_how_many (aCons (aVar 5) aNil)) (aC (.int 3)))) (aB (aOp (oEq true) (aCall A_parting (aCons (aVar 5) aNil)) (aOp oAdd (aTup (aCons (aC (.str "down")) (aCons (aC (.str "down")) aNil))) (aVar 7))))) (aRet (aC (.bl false))) aNext)
  (aSeq (aIfS (aOr (aB (aOp (oEq true) (aCall A_sides (aCons (aVar 5) aNil)) (aOp oAdd (aTup (aCons (aC (.str "either")) (aCons (aC (.str "either")) aNil))) (aVar 7)))) (aB (aIsN true (aCall A_four (aCons (aVar 5) aNil))))) (aRet (aC (.bl false))) aNext)
  (aSeq (aIfS (aOr (aB (aOp (oEq true) (aCall A_four (aCons (aTup (aCons (aC (.int 2)) (aCons (aC (.int 1)) (aCons (aC (.int 4)) (aCons (aC (.int 3)) aNil))))) aNil)) (aTup (aCons (aC (.int 0)) (aCons (aC (.int 1)) (aCons (aC (.int 2)) (aCons (aC (.int 3)) aNil))))))) (aB (aOp (oEq true) (aCall A_four (aCons (aTup (aCons (aC (.int 3)) (aCons (aC (.int 4)) (aCons (aC (.int 1)) (aCons (aC (.int 2)) aNil))))) aNil)) (aTup (aCons (aC (.int 0)) (aCons (aC (.int 1)) (aCons (aC (.int 2)) (aCons (aC (.int 3)) aNil)))))))) (aRet (aC (.bl false))) aNext)
  (aSeq (aIfS (aB (aOp (oEq true) (aCall A_fewest (aCons (aTup (aCons (aC (.int 3)) (aCons (aC (.int 4)) (aCons (aC (.int 1)) (aCons (aC (.int 2)) aNil))))) aNil)) (aTup (aCons (aC (.int 1)) (aCons (aTup (aCons (aC (.int 0)) aNil)) aNil))))) (aRet (aC (.bl false))) aNext)
  (aSeq (aIfS (aB (aOp (oIsB true) (aCall A_bars (aCons (aTup (aCons (aC (.int 9)) (aCons (aC (.int 2)) (aCons (aC (.int 1)) (aCons (aC (.int 4)) (aCons (aC (.int 3)) aNil)))))) (aCons (aTup (aCons (aC (.int 1)) (aCons (aC (.int 2)) (aCons (aC (.int 3)) (aCons (aC (.int 4)) aNil))))) aNil))) (aC (.bl true)))) (aRet (aC (.bl false))) aNext)
  (aSeq (aIfS (aB (aOp (oIsB true) (aCall A_bars (aCons (aTup (aCons (aC (.int 9)) (aCons (aC (.int 2)) (aCons (aC (.int 1)) (aCons (aC (.int 4)) (aCons (aC (.int 3)) aNil)))))) (aCons (aTup (aCons (aC (.int 0)) (aCons (aC (.int 1)) (aCons (aC (.int 2)) (aCons (aC (.int 3)) aNil))))) aNil))) (aC (.bl false)))) (aRet (aC (.bl false))) aNext)
  (aSeq (aIfS (aB (aOp (oEq true) (aCall A_fewest (aCons (aTup (aCons (aC (.int 2)) (aCons (aC (.int 1)) (aCons (aC (.int 4)) (aCons (aC (.int 3)) (aCons (aC (.int 6)) (aCons (aC (.int 5)) aNil))))))) aNil)) (aTup (aCons (aC (.int 2)) (aCons (aTup (aCons (aC (.int 0)) (aCons (aC (.int 2)) aNil))) aNil))))) (aRet (aC (.bl false))) aNext)
  (aSeq (aIfS (aB (aOp (oEq true) (aCall A_worth (aCons (aTup (aCons (aC (.int 2)) (aCons (aC (.int 1)) (aCons (aC (.int 4)) (aCons (aC (.int 3)) (aCons (aC (.int 6)) (aCons (aC (.int 5)) aNil))))))) (aCons (aTup (aCons (aC (.int 1)) (aCons (aC (.int 1)) (aCons (aC (.int 1)) (aCons (aC (.int 1)) (aCons (aC (.int 9)) (aCons (aC (.int 9)) aNil))))))) aNil))) (aC (.int 20)))) (aRet (aC (.bl false))) aNext)
  (aSeq (aIfS (aOr (aB (aOp (oEq true) (aCall A_filled (aCons (aTup (aCons (aC .non) (aCons (aC .non) (aCons (aC .non) aNil)))) aNil)) (aTup (aCons (aC (.int 6)) (aCons (aTup (aCons (aC (.int 1)) (aCons (aC (.int 2)) (aCons (aC (.int 3)) aNil)))) aNil))))) (aB (aOp (oEq true) (aCall A_filled (aCons (aTup (aCons (aC (.int 2)) (aCons (aC .non) (aCons (aC (.int 4)) (aCons (aC .non) aNil))))) aNil)) (aTup (aCons (aC (.int 1)) (aCons (aTup (aCons (aC (.int 2)) (aCons (aC (.int 3)) (aCons (aC (.int 4)) (aCons (aC (.int 1)) aNil))))) aNil)))))) (aRet (aC (.bl false))) aNext)
  (aSeq (aAsg (aMake CL (A_Laid_init CL)) (.one 8))
  (aSeq (aFor (iSeq (aTup (aCons (aC (.int 2)) (aCons (aC (.int 1)) (aCons (aC (.int 4)) aNil))))) (.one 9) (aDrop (aMeth CL "lay" (A_Laid_lay CL) (aVar 8) (aCons (aVar 9) aNil))))
  (aSeq (aIfS (aB (aOp (oEq true) (aMeth CL "can_be_laid" (A_Laid_can_be_laid CL) (aVar 8) aNil) (aLst (aCons (aTup (aCons (aC (.int 0)) (aCons (aC (.int 0)) aNil))) (aCons (aTup (aCons (aC (.int 5)) (aCons (aOp oPow (aC (.int 10)) (aC (.int 9))) aNil))) aNil))))) (aRet (aC (.bl false))) aNext)
  (aIfS (aB (aOp (oEq true) (aDoorB PT QN CL "lay" (aVar 8) (aCons (aC (.int 3)) aNil) (Bad_Laid_lay CL) "Barred+") (aLst (aCons (aC (.str "Barred+")) (aCons (aTup (aCons (aC (.int 0)) (aCons (aC (.int 1)) (aCons (aC (.int 2)) (aCons (aC (.int 3)) aNil))))) aNil))))) (aRet (aC (.bl false))) aNext))))))))))))))))))))))
  (aRet (aC (.bl true))))
theorem r_law {PT CL : Addr} {ds : List D} {L : Lg} {Kk : AK} (h : A_law PT ds L Kk) : t_law PT CL { nx := fun _ L' => Rt Kk .non L', rt := Rt Kk } (startD N_law ds) L := by
  obtain ⟨ns, rfl, hl, hPT, h⟩ := h
  show t_law PT CL _ [some (.lst (ns.map .int)), none, none, none, none, none, none, none, none, none] L
  unfold t_law
  refine seq_cut (fun Δ' L' => True) (fun N hN => ?_) (fun Δ' L' _ => ?_)
  · simp only [aSeq, aAsg, Tg.A, aVar, aC, aOp, aCons, aNil, aCall, aTup, aLst, aLstM, aFrz, aRet, aIfS, aNext, aDrop, aNever, aB, aAnd, aOr, aNot, aAndV, aOrV, aNotV, aIf, aCh, aNeg, aIsN, isN, oI0, oI, oEq, oIn, oIx, oAdd, oDIn, oDGet, oSub, oMod, oFdiv, oPow, oMul, oLt, oLe, oGt, oGe, pLe, pLt, see, items, cLen, cAll, cAny, cSorted, cSortedM, cSum, cMax, cMax2, cMin2, cList, cListM, cTuple, aIsi, aTupRg, aLstRg, oNone, oSome, aSl, aRev, aRevM, aBM, mAppend, mPopAt, mInsert, aDNew, aSetI, aSetD, aPar3, aAsgU, aLenSetS, aTabS, oIsB, mIndex, cMinT, aFor, aWhile, iSeq, seqOf, iRg1, iRg2, iZip, iEnum, aYes, aLc, aLcM, aPar, wipeD, setAll, tyD, eq_self, true_implies, false_implies, implies_true, and_true, true_and, ne_eq, not_false_eq_true, reduceCtorEq, Bool.not_true, Bool.not_false, ix30, ix32, at30, at31, at32, isiD_ii, isiD_bi, isiD_tt, isiD_ll, isiD_il, isiD_bl2, isiD_it, isiD_bt, isiD_st, isiD_sl, isiD_lt, isiD_si, isiD_li, isiD_bb, eqD_int, okD_i, List.set_cons_zero, List.set_cons_succ, List.getElem?_cons_zero, List.getElem?_cons_succ, List.length_cons, List.length_nil, List.map_cons, List.map_nil, Option.bind_some, put_same, Bool.xor_false, Bool.false_xor]
    refine ⟨by decide, by rw [List.length_map]; omega, ?_⟩
    have hcut : cut ([D.int 0] ++ ns.map D.int) none (some 4) = (cut (0 :: ns) none (some 4)).map D.int := by rw [← cut_map]; rfl
    rw [hcut]
    refine forA_ind (fun i Δ L' => (∃ x1 x2 x3 x4 x5 x6 x7 x8 x9 : Option D, Δ = [some (.lst (ns.map .int)), x1, x2, x3, x4, x5, x6, x7, x8, x9]) ∧ L' PT = some (.tab QN)) (fun _ _ _ _ => trivial) (fun i d Δ L' N e I hN => ?_) (fun Δ L' I => ?_) ⟨⟨_, _, _, _, _, _, _, _, _, rfl⟩, hPT⟩
    · obtain ⟨⟨x1, x2, x3, x4, x5, x6, x7, x8, x9, rfl⟩, hPT1⟩ := I
      rw [List.getElem?_map] at e
      obtain ⟨cell, _, rfl⟩ := Option.map_eq_some_iff.mp e
      simp only [Tg.A, List.set_cons_zero, List.set_cons_succ]
      refine seq_cut (fun Δ' L2 => ∃ p C, Δ' = [some (.lst (ns.map .int)), some (.int cell), some (.ref p), x3, x4, x5, x6, x7, x8, x9] ∧ L2 p = some C ∧ Deck 13 C ∧ p ≠ PT ∧ L2 PT = some (.tab QN)) (fun N hN => ?_) (fun Δ' L2 I => ?_)
      · simp only [aSeq, aAsg, Tg.A, aVar, aC, aOp, aCons, aNil, aCall, aTup, aLst, aLstM, aFrz, aRet, aIfS, aNext, aDrop, aNever, aB, aAnd, aOr, aNot, aAndV, aOrV, aNotV, aIf, aCh, aNeg, aIsN, isN, oI0, oI, oEq, oIn, oIx, oAdd, oDIn, oDGet, oSub, oMod, oFdiv, oPow, oMul, oLt, oLe, oGt, oGe, pLe, pLt, see, items, cLen, cAll, cAny, cSorted, cSortedM, cSum, cMax, cMax2, cMin2, cList, cListM, cTuple, aIsi, aTupRg, aLstRg, oNone, oSome, aSl, aRev, aRevM, aBM, mAppend, mPopAt, mInsert, aDNew, aSetI, aSetD, aPar3, aAsgU, aLenSetS, aTabS, oIsB, mIndex, cMinT, aFor, aWhile, iSeq, seqOf, iRg1, iRg2, iZip, iEnum, aYes, aLc, aLcM, aPar, wipeD, setAll, tyD, eq_self, true_implies, false_implies, implies_true, and_true, true_and, ne_eq, not_false_eq_true, reduceCtorEq, Bool.not_true, Bool.not_false, ix30, ix32, at30, at31, at32, isiD_ii, isiD_bi, isiD_tt, isiD_ll, isiD_il, isiD_bl2, isiD_it, isiD_bt, isiD_st, isiD_sl, isiD_lt, isiD_si, isiD_li, isiD_bb, eqD_int, okD_i, List.set_cons_zero, List.set_cons_succ, List.getElem?_cons_zero, List.getElem?_cons_succ, List.length_cons, List.length_nil, List.map_cons, List.map_nil, Option.bind_some, put_same, Bool.xor_false, Bool.false_xor, A__law_deck]
        exact ⟨cell, 13, rfl, by decide, fun p C hp hC => by
          have hpP : p ≠ PT := fun e => by rw [e, hPT1] at hp; cases hp
          exact hN _ _ ⟨p, C, rfl, put_same, hC, hpP, by rw [put_ne (Ne.symm hpP)]; exact hPT1⟩⟩
      obtain ⟨p, C, rfl, hp, hC, hne, hPT2⟩ := I
      refine seq_cut (fun Δ' L2 => ∃ n : Nat, n < 38 ∧ Δ' = [some (.lst (ns.map .int)), some (.int cell), some (.ref p), some (.int (3 + (n : Nat))), x4, x5, x6, x7, x8, x9] ∧ L2 PT = some (.tab QN)) (fun N hN => ?_) (fun Δ' L2 I => ?_)
      · simp only [aSeq, aAsg, Tg.A, aVar, aC, aOp, aCons, aNil, aCall, aTup, aLst, aLstM, aFrz, aRet, aIfS, aNext, aDrop, aNever, aB, aAnd, aOr, aNot, aAndV, aOrV, aNotV, aIf, aCh, aNeg, aIsN, isN, oI0, oI, oEq, oIn, oIx, oAdd, oDIn, oDGet, oSub, oMod, oFdiv, oPow, oMul, oLt, oLe, oGt, oGe, pLe, pLt, see, items, cLen, cAll, cAny, cSorted, cSortedM, cSum, cMax, cMax2, cMin2, cList, cListM, cTuple, aIsi, aTupRg, aLstRg, oNone, oSome, aSl, aRev, aRevM, aBM, mAppend, mPopAt, mInsert, aDNew, aSetI, aSetD, aPar3, aAsgU, aLenSetS, aTabS, oIsB, mIndex, cMinT, aFor, aWhile, iSeq, seqOf, iRg1, iRg2, iZip, iEnum, aYes, aLc, aLcM, aPar, wipeD, setAll, tyD, eq_self, true_implies, false_implies, implies_true, and_true, true_and, ne_eq, not_false_eq_true, reduceCtorEq, Bool.not_true, Bool.not_false, ix30, ix32, at30, at31, at32, isiD_ii, isiD_bi, isiD_tt, isiD_ll, isiD_il, isiD_bl2, isiD_it, isiD_bt, isiD_st, isiD_sl, isiD_lt, isiD_si, isiD_li, isiD_bb, eqD_int, okD_i, List.set_cons_zero, List.set_cons_succ, List.getElem?_cons_zero, List.getElem?_cons_succ, List.length_cons, List.length_nil, List.map_cons, List.map_nil, Option.bind_some, put_same, Bool.xor_false, Bool.false_xor, A__law_pick]
        refine ⟨p, 38, 13, C, rfl, hp, hC, by decide, by decide, by decide, fun r C2 r0 r1 _ => ?_⟩
        obtain ⟨n, rfl⟩ := Int.eq_ofNat_of_zero_le r0
        exact hN _ _ ⟨n, by omega, rfl, by rw [put_ne (Ne.symm hne)]; exact hPT2⟩
      obtain ⟨n, hn, rfl, hPT3⟩ := I
      have hrow := ord_row hn
      have hout := out_Row hn
      refine seq_cut (fun Δ' L2 => Δ' = [some (.lst (ns.map .int)), some (.int cell), some (.ref p), some (.int (3 + (n : Nat))), some (.tup ((ordR (n + 3)).map .int)), x5, x6, x7, x8, x9] ∧ L2 PT = some (.tab QN)) (fun N hN => ?_) (fun Δ' L2 I => ?_)
      · simp only [aSeq, aAsg, Tg.A, aVar, aC, aOp, aCons, aNil, aCall, aTup, aLst, aLstM, aFrz, aRet, aIfS, aNext, aDrop, aNever, aB, aAnd, aOr, aNot, aAndV, aOrV, aNotV, aIf, aCh, aNeg, aIsN, isN, oI0, oI, oEq, oIn, oIx, oAdd, oDIn, oDGet, oSub, oMod, oFdiv, oPow, oMul, oLt, oLe, oGt, oGe, pLe, pLt, see, items, cLen, cAll, cAny, cSorted, cSortedM, cSum, cMax, cMax2, cMin2, cList, cListM, cTuple, aIsi, aTupRg, aLstRg, oNone, oSome, aSl, aRev, aRevM, aBM, mAppend, mPopAt, mInsert, aDNew, aSetI, aSetD, aPar3, aAsgU, aLenSetS, aTabS, oIsB, mIndex, cMinT, aFor, aWhile, iSeq, seqOf, iRg1, iRg2, iZip, iEnum, aYes, aLc, aLcM, aPar, wipeD, setAll, tyD, eq_self, true_implies, false_implies, implies_true, and_true, true_and, ne_eq, not_false_eq_true, reduceCtorEq, Bool.not_true, Bool.not_false, ix30, ix32, at30, at31, at32, isiD_ii, isiD_bi, isiD_tt, isiD_ll, isiD_il, isiD_bl2, isiD_it, isiD_bt, isiD_st, isiD_sl, isiD_lt, isiD_si, isiD_li, isiD_bb, eqD_int, okD_i, List.set_cons_zero, List.set_cons_succ, List.getElem?_cons_zero, List.getElem?_cons_succ, List.length_cons, List.length_nil, List.map_cons, List.map_nil, Option.bind_some, put_same, Bool.xor_false, Bool.false_xor]
        have eo : rgD 0 (3 + (n : Int)).toNat = (ordR (n + 3)).map .int := by
          have : (3 + (n : Int)).toNat = n + 3 := by omega
          rw [this]
          unfold rgD ordR
          rw [List.map_map]
          rfl
        rw [eo]
        exact ⟨by omega, by omega, hN _ _ ⟨rfl, hPT3⟩⟩
      obtain ⟨rfl, hPT4⟩ := I
      have e1 : D.int (((ptsR (ordR (n + 3))).length : Nat) : Int) = .int (3 + (n : Nat) + 1) := by rw [ord_many n hn]; congr 1; omega
      have okE : okD 64 (.tup ((List.replicate (n + 3) ("either" : Str)).map .str)) = true := okD_strs fun x hx => by rw [List.eq_of_mem_replicate hx]; decide +kernel
      have okU : ∀ b : Bool, PyData.strOk (sideS b) = true := fun b => by cases b <;> decide +kernel
      have eE : (List.replicate (3 + (n : Int)).toNat [D.str "either"]).flatten = (List.replicate (n + 3) ("either" : Str)).map .str := by
        have : (3 + (n : Int)).toNat = n + 3 := by omega
        rw [this, rep_flat, List.map_replicate]
      refine seq_cut (fun Δ' L2 => (∃ x6 : Option D, Δ' = [some (.lst (ns.map .int)), some (.int cell), some (.ref p), some (.int (3 + (n : Nat))), some (.tup ((ordR (n + 3)).map .int)), x5, x6, x7, x8, x9]) ∧ L2 PT = some (.tab QN)) (fun N hN => ?_) (fun Δ' L2 I => ?_)
      · simp only [aSeq, aAsg, Tg.A, aVar, aC, aOp, aCons, aNil, aCall, aTup, aLst, aLstM, aFrz, aRet, aIfS, aNext, aDrop, aNever, aB, aAnd, aOr, aNot, aAndV, aOrV, aNotV, aIf, aCh, aNeg, aIsN, isN, oI0, oI, oIn, oIx, oAdd, oDIn, oDGet, oSub, oMod, oFdiv, oPow, oMul, oLt, oLe, oGt, oGe, pLe, pLt, cLen, cAll, cAny, cSorted, cSortedM, cSum, cMax, cMax2, cMin2, cList, cListM, cTuple, aIsi, aTupRg, aLstRg, oNone, oSome, aSl, aRev, aRevM, aBM, mAppend, mPopAt, mInsert, aDNew, aSetI, aSetD, aPar3, aAsgU, aLenSetS, aTabS, oIsB, mIndex, cMinT, aFor, aWhile, iSeq, iRg1, iRg2, iZip, iEnum, aYes, aLc, aLcM, aPar, wipeD, setAll, eq_self, true_implies, false_implies, implies_true, and_true, true_and, ne_eq, not_false_eq_true, reduceCtorEq, Bool.not_true, Bool.not_false, ix30, ix32, at30, at31, at32, isiD_ii, isiD_bi, isiD_tt, isiD_ll, isiD_il, isiD_bl2, isiD_it, isiD_bt, isiD_st, isiD_sl, isiD_lt, isiD_si, isiD_li, isiD_bb, eqD_int, okD_i, List.set_cons_zero, List.set_cons_succ, List.getElem?_cons_zero, List.getElem?_cons_succ, List.length_cons, List.length_nil, List.map_cons, List.map_nil, Option.bind_some, put_same, Bool.xor_false, Bool.false_xor, A_how_many, A_sides, A_sides_of, oRepT, see_i, see_t, eE]
        refine ⟨_, rfl, hrow, ne_same (d := .int (3 + (n : Nat) + 1)) e1 rfl (okD_i _ _) ?_⟩
        refine ⟨fun a => (nomatch a), fun _ => ⟨_, rfl, hrow, by decide, ?_⟩⟩
        rw [ord_sides n hn]
        refine ⟨by omega, by omega, by decide, ne_same rfl rfl okE ?_⟩
        exact ⟨fun a => (nomatch a), fun _ => hN _ _ ⟨⟨_, rfl⟩, hPT4⟩⟩
      obtain ⟨⟨x6, rfl⟩, hPT4⟩ := I
      refine seq_cut (fun Δ' L2 => (∃ x6 : Option D, Δ' = [some (.lst (ns.map .int)), some (.int cell), some (.ref p), some (.int (3 + (n : Nat))), some (.tup ((ordR (n + 3)).map .int)), x5, x6, x7, x8, x9]) ∧ L2 PT = some (.tab QN)) (fun N hN => ?_) (fun Δ' L2 I => ?_)
      · simp only [aSeq, aAsg, Tg.A, aVar, aC, aOp, aCons, aNil, aCall, aTup, aLst, aLstM, aFrz, aRet, aIfS, aNext, aDrop, aNever, aB, aAnd, aOr, aNot, aAndV, aOrV, aNotV, aIf, aCh, aNeg, aIsN, isN, oI0, oI, oIn, oIx, oAdd, oDIn, oDGet, oSub, oMod, oFdiv, oPow, oMul, oLt, oLe, oGt, oGe, pLe, pLt, cLen, cAll, cAny, cSorted, cSortedM, cSum, cMax, cMax2, cMin2, cList, cListM, cTuple, aIsi, aTupRg, aLstRg, oNone, oSome, aSl, aRev, aRevM, aBM, mAppend, mPopAt, mInsert, aDNew, aSetI, aSetD, aPar3, aAsgU, aLenSetS, aTabS, oIsB, mIndex, cMinT, aFor, aWhile, iSeq, iRg1, iRg2, iZip, iEnum, aYes, aLc, aLcM, aPar, wipeD, setAll, eq_self, true_implies, false_implies, implies_true, and_true, true_and, ne_eq, not_false_eq_true, reduceCtorEq, Bool.not_true, Bool.not_false, ix30, ix32, at30, at31, at32, isiD_ii, isiD_bi, isiD_tt, isiD_ll, isiD_il, isiD_bl2, isiD_it, isiD_bt, isiD_st, isiD_sl, isiD_lt, isiD_si, isiD_li, isiD_bb, eqD_int, okD_i, List.set_cons_zero, List.set_cons_succ, List.getElem?_cons_zero, List.getElem?_cons_succ, List.length_cons, List.length_nil, List.map_cons, List.map_nil, Option.bind_some, put_same, Bool.xor_false, Bool.false_xor, A_seams, see_i]
        refine ⟨_, rfl, hrow, fun p' hp' => ⟨by decide, ne_same (d := .lst ([0, 1, 3 + (n : Int) - 1].map .int)) ?_ rfl (okD_ints _ _) ?_⟩⟩
        · rw [see_r put_same, ord_seams n hn]
          have : ((n + 2 : Nat) : Int) = 3 + (n : Int) - 1 := by omega
          rw [this]
        · exact ⟨fun a => (nomatch a), fun _ => hN _ _ ⟨⟨_, rfl⟩, by rw [put_ne (fun e => by rw [← e, hPT4] at hp'; cases hp')]; exact hPT4⟩⟩
      obtain ⟨⟨x6, rfl⟩, hPT4⟩ := I
      have eP : partD (ptsR (ordR (n + 3))) = maskD (false :: List.replicate (n + 2) true) := partD_head (ord_part n hn)
      have eU : D.tup ([.str "down"] ++ (List.replicate (3 + (n : Int) - 1).toNat [D.str "up"]).flatten) = maskD (false :: List.replicate (n + 2) true) := by
        have : (3 + (n : Int) - 1).toNat = n + 2 := by omega
        rw [this, rep_flat]
        unfold maskD
        rw [List.map_cons, List.map_replicate]
        rfl
      have e2 : D.int (((ptsR (ordR (n + 3)).reverse).length : Nat) : Int) = .int (3 + (n : Nat) + 1) := by rw [ord_rev n hn]; congr 1; omega
      refine seq_cut (fun Δ' L2 => (∃ x6 : Option D, Δ' = [some (.lst (ns.map .int)), some (.int cell), some (.ref p), some (.int (3 + (n : Nat))), some (.tup ((ordR (n + 3)).map .int)), x5, x6, x7, x8, x9]) ∧ L2 PT = some (.tab QN)) (fun N hN => ?_) (fun Δ' L2 I => ?_)
      · simp only [aSeq, aAsg, Tg.A, aVar, aC, aOp, aCons, aNil, aCall, aTup, aLst, aLstM, aFrz, aRet, aIfS, aNext, aDrop, aNever, aB, aAnd, aOr, aNot, aAndV, aOrV, aNotV, aIf, aCh, aNeg, aIsN, isN, oI0, oI, oIn, oIx, oAdd, oDIn, oDGet, oSub, oMod, oFdiv, oPow, oMul, oLt, oLe, oGt, oGe, pLe, pLt, cLen, cAll, cAny, cSorted, cSortedM, cSum, cMax, cMax2, cMin2, cList, cListM, cTuple, aIsi, aTupRg, aLstRg, oNone, oSome, aSl, aRev, aRevM, aBM, mAppend, mPopAt, mInsert, aDNew, aSetI, aSetD, aPar3, aAsgU, aLenSetS, aTabS, oIsB, mIndex, cMinT, aFor, aWhile, iSeq, iRg1, iRg2, iZip, iEnum, aYes, aLc, aLcM, aPar, wipeD, setAll, eq_self, true_implies, false_implies, implies_true, and_true, true_and, ne_eq, not_false_eq_true, reduceCtorEq, Bool.not_true, Bool.not_false, ix30, ix32, at30, at31, at32, isiD_ii, isiD_bi, isiD_tt, isiD_ll, isiD_il, isiD_bl2, isiD_it, isiD_bt, isiD_st, isiD_sl, isiD_lt, isiD_si, isiD_li, isiD_bb, eqD_int, okD_i, List.set_cons_zero, List.set_cons_succ, List.getElem?_cons_zero, List.getElem?_cons_succ, List.length_cons, List.length_nil, List.map_cons, List.map_nil, Option.bind_some, put_same, Bool.xor_false, Bool.false_xor, A_parting, A_how_many, oRepT, see_i, see_t, see_s]
        refine ⟨_, rfl, hrow, by decide, by decide, ?_⟩
        refine ⟨by omega, by omega, by decide, ?_, ne_same (d := maskD (false :: List.replicate (n + 2) true)) (by rw [eP]; rfl) eU (okD_mask _ _) ?_⟩
        · rw [rep_flat, List.length_replicate]; omega
        refine ⟨fun a => (nomatch a), fun _ => ⟨(ordR (n + 3)).reverse, by rw [List.map_reverse], hrow.rev, ne_same (d := .int (3 + (n : Nat) + 1)) e2 rfl (okD_i _ _) ?_⟩⟩
        exact ⟨fun a => (nomatch a), fun _ => hN _ _ ⟨⟨_, rfl⟩, hPT4⟩⟩
      obtain ⟨⟨x6, rfl⟩, hPT4⟩ := I
      refine seq_cut (fun Δ' L2 => (∃ x6 : Option D, Δ' = [some (.lst (ns.map .int)), some (.int cell), some (.ref p), some (.int (3 + (n : Nat))), some (.tup ((ordR (n + 3)).map .int)), some (.tup ((outR (n + 3)).map .int)), x6, x7, x8, x9]) ∧ L2 PT = some (.tab QN)) (fun N hN => ?_) (fun Δ' L2 I => ?_)
      · simp only [aSeq, aAsg, Tg.A, aVar, aC, aOp, aCons, aNil, aCall, aTup, aLst, aLstM, aFrz, aRet, aIfS, aNext, aDrop, aNever, aB, aAnd, aOr, aNot, aAndV, aOrV, aNotV, aIf, aCh, aNeg, aIsN, isN, oI0, oI, oEq, oIn, oIx, oAdd, oDIn, oDGet, oSub, oMod, oFdiv, oPow, oMul, oLt, oLe, oGt, oGe, pLe, pLt, see, items, cLen, cAll, cAny, cSorted, cSortedM, cSum, cMax, cMax2, cMin2, cList, cListM, cTuple, aIsi, aTupRg, aLstRg, oNone, oSome, aSl, aRev, aRevM, aBM, mAppend, mPopAt, mInsert, aDNew, aSetI, aSetD, aPar3, aAsgU, aLenSetS, aTabS, oIsB, mIndex, cMinT, aFor, aWhile, iSeq, seqOf, iRg1, iRg2, iZip, iEnum, aYes, aLc, aLcM, aPar, wipeD, setAll, tyD, eq_self, true_implies, false_implies, implies_true, and_true, true_and, ne_eq, not_false_eq_true, reduceCtorEq, Bool.not_true, Bool.not_false, ix30, ix32, at30, at31, at32, isiD_ii, isiD_bi, isiD_tt, isiD_ll, isiD_il, isiD_bl2, isiD_it, isiD_bt, isiD_st, isiD_sl, isiD_lt, isiD_si, isiD_li, isiD_bb, eqD_int, okD_i, List.set_cons_zero, List.set_cons_succ, List.getElem?_cons_zero, List.getElem?_cons_succ, List.length_cons, List.length_nil, List.map_cons, List.map_nil, Option.bind_some, put_same, Bool.xor_false, Bool.false_xor]
        have eo : rgD 0 (3 + (n : Int)).toNat = (List.range (n + 3)).map fun i : Nat => D.int (0 + (i : Nat)) := by
          have : (3 + (n : Int)).toNat = n + 3 := by omega
          rw [this]
          rfl
        rw [eo]
        refine ⟨by omega, by omega, by rw [List.length_map, List.length_range]; omega, ?_⟩
        refine lcA_map (List.range (n + 3)) (fun i : Nat => D.int (0 + (i : Nat))) (fun i : Nat => [.int (outC (0 + (i : Nat)))]) trivial (fun i _ R hR => ?_) ?_
        · simp only [aSeq, aAsg, Tg.A, aVar, aC, aOp, aCons, aNil, aCall, aTup, aLst, aLstM, aFrz, aRet, aIfS, aNext, aDrop, aNever, aB, aAnd, aOr, aNot, aAndV, aOrV, aNotV, aIf, aCh, aNeg, aIsN, isN, oI0, oI, oEq, oIn, oIx, oAdd, oDIn, oDGet, oSub, oMod, oFdiv, oPow, oMul, oLt, oLe, oGt, oGe, pLe, pLt, see, items, cLen, cAll, cAny, cSorted, cSortedM, cSum, cMax, cMax2, cMin2, cList, cListM, cTuple, aIsi, aTupRg, aLstRg, oNone, oSome, aSl, aRev, aRevM, aBM, mAppend, mPopAt, mInsert, aDNew, aSetI, aSetD, aPar3, aAsgU, aLenSetS, aTabS, oIsB, mIndex, cMinT, aFor, aWhile, iSeq, seqOf, iRg1, iRg2, iZip, iEnum, aYes, aLc, aLcM, aPar, wipeD, setAll, tyD, eq_self, true_implies, false_implies, implies_true, and_true, true_and, ne_eq, not_false_eq_true, reduceCtorEq, Bool.not_true, Bool.not_false, ix30, ix32, at30, at31, at32, isiD_ii, isiD_bi, isiD_tt, isiD_ll, isiD_il, isiD_bl2, isiD_it, isiD_bt, isiD_st, isiD_sl, isiD_lt, isiD_si, isiD_li, isiD_bb, eqD_int, okD_i, List.set_cons_zero, List.set_cons_succ, List.getElem?_cons_zero, List.getElem?_cons_succ, List.length_cons, List.length_nil, List.map_cons, List.map_nil, Option.bind_some, put_same, Bool.xor_false, Bool.false_xor]
          unfold outC at hR
          refine ⟨by decide, fun a => ?_, fun a => ?_⟩
          · rw [if_pos (of_decide_eq_true a)] at hR
            exact ⟨⟨by decide, by decide⟩, hR⟩
          · rw [if_neg (of_decide_eq_false a)] at hR
            exact ⟨⟨by decide, by decide⟩, hR⟩
        · rw [flatMap_one]
          have : ((List.range (n + 3)).map fun i : Nat => D.int (outC (0 + (i : Nat)))) = (outR (n + 3)).map .int := by unfold outR; rw [List.map_map]; rfl
          rw [this]
          exact hN _ _ ⟨⟨_, rfl⟩, hPT4⟩
      obtain ⟨⟨x6, rfl⟩, hPT4⟩ := I
      refine seq_cut (fun Δ' L2 => (∃ x6 : Option D, Δ' = [some (.lst (ns.map .int)), some (.int cell), some (.ref p), some (.int (3 + (n : Nat))), some (.tup ((ordR (n + 3)).map .int)), some (.tup ((outR (n + 3)).map .int)), x6, some (.tup (((laterB (n + 1)).map sideS).map .str)), x8, x9]) ∧ L2 PT = some (.tab QN)) (fun N hN => ?_) (fun Δ' L2 I => ?_)
      · simp only [aSeq, aAsg, Tg.A, aVar, aC, aOp, aCons, aNil, aCall, aTup, aLst, aLstM, aFrz, aRet, aIfS, aNext, aDrop, aNever, aB, aAnd, aOr, aNot, aAndV, aOrV, aNotV, aIf, aCh, aNeg, aIsN, isN, oI0, oI, oEq, oIn, oIx, oAdd, oDIn, oDGet, oSub, oMod, oFdiv, oPow, oMul, oLt, oLe, oGt, oGe, pLe, pLt, see, items, cLen, cAll, cAny, cSorted, cSortedM, cSum, cMax, cMax2, cMin2, cList, cListM, cTuple, aIsi, aTupRg, aLstRg, oNone, oSome, aSl, aRev, aRevM, aBM, mAppend, mPopAt, mInsert, aDNew, aSetI, aSetD, aPar3, aAsgU, aLenSetS, aTabS, oIsB, mIndex, cMinT, aFor, aWhile, iSeq, seqOf, iRg1, iRg2, iZip, iEnum, aYes, aLc, aLcM, aPar, wipeD, setAll, tyD, eq_self, true_implies, false_implies, implies_true, and_true, true_and, ne_eq, not_false_eq_true, reduceCtorEq, Bool.not_true, Bool.not_false, ix30, ix32, at30, at31, at32, isiD_ii, isiD_bi, isiD_tt, isiD_ll, isiD_il, isiD_bl2, isiD_it, isiD_bt, isiD_st, isiD_sl, isiD_lt, isiD_si, isiD_li, isiD_bb, eqD_int, okD_i, List.set_cons_zero, List.set_cons_succ, List.getElem?_cons_zero, List.getElem?_cons_succ, List.length_cons, List.length_nil, List.map_cons, List.map_nil, Option.bind_some, put_same, Bool.xor_false, Bool.false_xor]
        have eo : rgD 2 (3 + (n : Int) - 2).toNat = (List.range (n + 1)).map fun i : Nat => D.int (2 + (i : Nat)) := by
          have : (3 + (n : Int) - 2).toNat = n + 1 := by omega
          rw [this]
          rfl
        rw [eo]
        refine ⟨⟨by decide, by decide, by omega, by omega⟩, by rw [List.length_map, List.length_range]; omega, ?_⟩
        refine lcA_map (List.range (n + 1)) (fun i : Nat => D.int (2 + (i : Nat))) (fun i : Nat => [.str (sideS (decide (i % 2 = 0)))]) trivial (fun i _ R hR => ?_) ?_
        · have hat : atI [D.str "up", D.str "down"] ((2 + (i : Int)) % 2) = some (.str (sideS (decide (i % 2 = 0)))) := by
            rcases Nat.mod_two_eq_zero_or_one i with z | z
            · have : (2 + (i : Int)) % 2 = 0 := by omega
              rw [this, z]
              rfl
            · have : (2 + (i : Int)) % 2 = 1 := by omega
              rw [this, z]
              rfl
          simp only [aSeq, aAsg, Tg.A, aVar, aC, aOp, aCons, aNil, aCall, aTup, aLst, aLstM, aFrz, aRet, aIfS, aNext, aDrop, aNever, aB, aAnd, aOr, aNot, aAndV, aOrV, aNotV, aIf, aCh, aNeg, aIsN, isN, oI0, oI, oEq, oIn, oIx, oAdd, oDIn, oDGet, oSub, oMod, oFdiv, oPow, oMul, oLt, oLe, oGt, oGe, pLe, pLt, see, items, cLen, cAll, cAny, cSorted, cSortedM, cSum, cMax, cMax2, cMin2, cList, cListM, cTuple, aIsi, aTupRg, aLstRg, oNone, oSome, aSl, aRev, aRevM, aBM, mAppend, mPopAt, mInsert, aDNew, aSetI, aSetD, aPar3, aAsgU, aLenSetS, aTabS, oIsB, mIndex, cMinT, aFor, aWhile, iSeq, seqOf, iRg1, iRg2, iZip, iEnum, aYes, aLc, aLcM, aPar, wipeD, setAll, tyD, eq_self, true_implies, false_implies, implies_true, and_true, true_and, ne_eq, not_false_eq_true, reduceCtorEq, Bool.not_true, Bool.not_false, ix30, ix32, at30, at31, at32, isiD_ii, isiD_bi, isiD_tt, isiD_ll, isiD_il, isiD_bl2, isiD_it, isiD_bt, isiD_st, isiD_sl, isiD_lt, isiD_si, isiD_li, isiD_bb, eqD_int, okD_i, List.set_cons_zero, List.set_cons_succ, List.getElem?_cons_zero, List.getElem?_cons_succ, List.length_cons, List.length_nil, List.map_cons, List.map_nil, Option.bind_some, put_same, Bool.xor_false, Bool.false_xor, hat]
          exact ⟨by decide, by decide, hR⟩
        · rw [flatMap_one]
          have : ((List.range (n + 1)).map fun i : Nat => D.str (sideS (decide (i % 2 = 0)))) = ((laterB (n + 1)).map sideS).map .str := by unfold laterB; rw [List.map_map, List.map_map]; rfl
          rw [this]
          exact hN _ _ ⟨⟨_, rfl⟩, hPT4⟩
      obtain ⟨⟨x6, rfl⟩, hPT4⟩ := I
      have eQ : partD (ptsR (outR (n + 3))) = maskD (false :: false :: laterB (n + 1)) := partD_head (out_part n hn)
      have eV : D.tup ([.str "down", .str "down"] ++ ((laterB (n + 1)).map sideS).map .str) = maskD (false :: false :: laterB (n + 1)) := by
        unfold maskD
        rw [List.map_cons, List.map_cons, List.map_map]
        rfl
      have e3 : D.int (((ptsR (outR (n + 3))).length : Nat) : Int) = .int 3 := by rw [out_many n hn]; rfl
      have okS2 : okD 64 (.tup ((("either" : Str) :: "either" :: (laterB (n + 1)).map sideS).map .str)) = true := okD_strs fun x hx => by
        rcases List.mem_cons.mp hx with rfl | hx
        · decide +kernel
        · rcases List.mem_cons.mp hx with rfl | hx
          · decide +kernel
          · obtain ⟨b, _, rfl⟩ := List.mem_map.mp hx
            exact okU b
      refine seq_cut (fun Δ' L2 => (∃ x6 : Option D, Δ' = [some (.lst (ns.map .int)), some (.int cell), some (.ref p), some (.int (3 + (n : Nat))), some (.tup ((ordR (n + 3)).map .int)), some (.tup ((outR (n + 3)).map .int)), x6, some (.tup (((laterB (n + 1)).map sideS).map .str)), x8, x9]) ∧ L2 PT = some (.tab QN)) (fun N hN => ?_) (fun Δ' L2 I => ?_)
      · simp only [aSeq, aAsg, Tg.A, aVar, aC, aOp, aCons, aNil, aCall, aTup, aLst, aLstM, aFrz, aRet, aIfS, aNext, aDrop, aNever, aB, aAnd, aOr, aNot, aAndV, aOrV, aNotV, aIf, aCh, aNeg, aIsN, isN, oI0, oI, oIn, oIx, oAdd, oDIn, oDGet, oSub, oMod, oFdiv, oPow, oMul, oLt, oLe, oGt, oGe, pLe, pLt, cLen, cAll, cAny, cSorted, cSortedM, cSum, cMax, cMax2, cMin2, cList, cListM, cTuple, aIsi, aTupRg, aLstRg, oNone, oSome, aSl, aRev, aRevM, aBM, mAppend, mPopAt, mInsert, aDNew, aSetI, aSetD, aPar3, aAsgU, aLenSetS, aTabS, oIsB, mIndex, cMinT, aFor, aWhile, iSeq, iRg1, iRg2, iZip, iEnum, aYes, aLc, aLcM, aPar, wipeD, setAll, eq_self, true_implies, false_implies, implies_true, and_true, true_and, ne_eq, not_false_eq_true, reduceCtorEq, Bool.not_true, Bool.not_false, ix30, ix32, at30, at31, at32, isiD_ii, isiD_bi, isiD_tt, isiD_ll, isiD_il, isiD_bl2, isiD_it, isiD_bt, isiD_st, isiD_sl, isiD_lt, isiD_si, isiD_li, isiD_bb, eqD_int, okD_i, List.set_cons_zero, List.set_cons_succ, List.getElem?_cons_zero, List.getElem?_cons_succ, List.length_cons, List.length_nil, List.map_cons, List.map_nil, Option.bind_some, put_same, Bool.xor_false, Bool.false_xor, A_parting, A_how_many, see_i, see_t, see_s]
        refine ⟨_, rfl, hout, ne_same (d := .int 3) e3 rfl (okD_i _ _) ?_⟩
        refine ⟨fun a => (nomatch a), fun _ => ⟨_, rfl, hout, by decide, ?_⟩⟩
        refine ⟨by rw [List.length_map, List.length_map]; unfold laterB; rw [List.length_map, List.length_range]; omega, ne_same (d := maskD (false :: false :: laterB (n + 1))) (by rw [eQ]; rfl) eV (okD_mask _ _) ?_⟩
        exact ⟨fun a => (nomatch a), fun _ => hN _ _ ⟨⟨_, rfl⟩, hPT4⟩⟩
      obtain ⟨⟨x6, rfl⟩, hPT4⟩ := I
      refine seq_cut (fun Δ' L2 => (∃ x6 : Option D, Δ' = [some (.lst (ns.map .int)), some (.int cell), some (.ref p), some (.int (3 + (n : Nat))), some (.tup ((ordR (n + 3)).map .int)), some (.tup ((outR (n + 3)).map .int)), x6, some (.tup (((laterB (n + 1)).map sideS).map .str)), x8, x9]) ∧ L2 PT = some (.tab QN)) (fun N hN => ?_) (fun Δ' L2 I => ?_)
      · simp only [aSeq, aAsg, Tg.A, aVar, aC, aOp, aCons, aNil, aCall, aTup, aLst, aLstM, aFrz, aRet, aIfS, aNext, aDrop, aNever, aB, aAnd, aOr, aNot, aAndV, aOrV, aNotV, aIf, aCh, aNeg, aIsN, isN, oI0, oI, oIn, oIx, oAdd, oDIn, oDGet, oSub, oMod, oFdiv, oPow, oMul, oLt, oLe, oGt, oGe, pLe, pLt, cLen, cAll, cAny, cSorted, cSortedM, cSum, cMax, cMax2, cMin2, cList, cListM, cTuple, aIsi, aTupRg, aLstRg, oNone, oSome, aSl, aRev, aRevM, aBM, mAppend, mPopAt, mInsert, aDNew, aSetI, aSetD, aPar3, aAsgU, aLenSetS, aTabS, oIsB, mIndex, cMinT, aFor, aWhile, iSeq, iRg1, iRg2, iZip, iEnum, aYes, aLc, aLcM, aPar, wipeD, setAll, eq_self, true_implies, false_implies, implies_true, and_true, true_and, ne_eq, not_false_eq_true, reduceCtorEq, Bool.not_true, Bool.not_false, ix30, ix32, at30, at31, at32, isiD_ii, isiD_bi, isiD_tt, isiD_ll, isiD_il, isiD_bl2, isiD_it, isiD_bt, isiD_st, isiD_sl, isiD_lt, isiD_si, isiD_li, isiD_bb, eqD_int, okD_i, List.set_cons_zero, List.set_cons_succ, List.getElem?_cons_zero, List.getElem?_cons_succ, List.length_cons, List.length_nil, List.map_cons, List.map_nil, Option.bind_some, put_same, Bool.xor_false, Bool.false_xor, A_sides, A_sides_of, A_four, see_i, see_t, see_s]
        refine ⟨_, rfl, hout, by decide, ?_⟩
        rw [out_sides n hn]
        refine ⟨by rw [List.length_map, List.length_map]; unfold laterB; rw [List.length_map, List.length_range]; omega, ne_same rfl rfl okS2 ?_⟩
        have hfn : fourOf (outR (n + 3)) = none := by
          apply Classical.byContradiction
          intro z
          have := (parts_iff hout).mpr z
          have h3 := out_many n hn
          rw [this] at h3
          cases h3
        refine ⟨fun a => (nomatch a), fun _ => ⟨_, rfl, hout, ?_⟩⟩
        rw [hfn]
        exact ⟨fun a => (nomatch a), fun _ => hN _ _ ⟨⟨_, rfl⟩, hPT4⟩⟩
      obtain ⟨⟨x6, rfl⟩, hPT4⟩ := I
      have rw4 : Row [2, 1, 4, 3] := ⟨by decide, by decide, by decide, by decide⟩
      have rw4b : Row [3, 4, 1, 2] := ⟨by decide, by decide, by decide, by decide⟩
      have rw5 : Row [9, 2, 1, 4, 3] := ⟨by decide, by decide, by decide, by decide⟩
      have rw6 : Row [2, 1, 4, 3, 6, 5] := ⟨by decide, by decide, by decide, by decide⟩
      refine seq_cut (fun Δ' L2 => (∃ x6 : Option D, Δ' = [some (.lst (ns.map .int)), some (.int cell), some (.ref p), some (.int (3 + (n : Nat))), some (.tup ((ordR (n + 3)).map .int)), some (.tup ((outR (n + 3)).map .int)), x6, some (.tup (((laterB (n + 1)).map sideS).map .str)), x8, x9]) ∧ L2 PT = some (.tab QN)) (fun N hN => ?_) (fun Δ' L2 I => ?_)
      · simp only [aSeq, aAsg, Tg.A, aVar, aC, aOp, aCons, aNil, aCall, aTup, aLst, aLstM, aFrz, aRet, aIfS, aNext, aDrop, aNever, aB, aAnd, aOr, aNot, aAndV, aOrV, aNotV, aIf, aCh, aNeg, aIsN, isN, oI0, oI, oIn, oIx, oAdd, oDIn, oDGet, oSub, oMod, oFdiv, oPow, oMul, oLt, oLe, oGt, oGe, pLe, pLt, cLen, cAll, cAny, cSorted, cSortedM, cSum, cMax, cMax2, cMin2, cList, cListM, cTuple, aIsi, aTupRg, aLstRg, oNone, oSome, aSl, aRev, aRevM, aBM, mAppend, mPopAt, mInsert, aDNew, aSetI, aSetD, aPar3, aAsgU, aLenSetS, aTabS, oIsB, mIndex, cMinT, aFor, aWhile, iSeq, iRg1, iRg2, iZip, iEnum, aYes, aLc, aLcM, aPar, wipeD, setAll, eq_self, true_implies, false_implies, implies_true, and_true, true_and, ne_eq, not_false_eq_true, reduceCtorEq, Bool.not_true, Bool.not_false, ix30, ix32, at30, at31, at32, isiD_ii, isiD_bi, isiD_tt, isiD_ll, isiD_il, isiD_bl2, isiD_it, isiD_bt, isiD_st, isiD_sl, isiD_lt, isiD_si, isiD_li, isiD_bb, eqD_int, okD_i, List.set_cons_zero, List.set_cons_succ, List.getElem?_cons_zero, List.getElem?_cons_succ, List.length_cons, List.length_nil, List.map_cons, List.map_nil, Option.bind_some, put_same, Bool.xor_false, Bool.false_xor, A_four, see_i, see_t]
        refine ⟨by decide, [2, 1, 4, 3], rfl, rw4, by decide, ?_⟩
        rw [four_2143]
        refine ne_same (d := .tup [.int 0, .int 1, .int 2, .int 3]) rfl rfl rfl ?_
        refine ⟨fun a => (nomatch a), fun _ => ⟨by decide, [3, 4, 1, 2], rfl, rw4b, by decide, ?_⟩⟩
        rw [four_3412]
        refine ne_same (d := .tup [.int 0, .int 1, .int 2, .int 3]) rfl rfl rfl ?_
        exact ⟨fun a => (nomatch a), fun _ => hN _ _ ⟨⟨_, rfl⟩, hPT4⟩⟩
      obtain ⟨⟨x6, rfl⟩, hPT4⟩ := I
      refine seq_cut (fun Δ' L2 => (∃ x6 : Option D, Δ' = [some (.lst (ns.map .int)), some (.int cell), some (.ref p), some (.int (3 + (n : Nat))), some (.tup ((ordR (n + 3)).map .int)), some (.tup ((outR (n + 3)).map .int)), x6, some (.tup (((laterB (n + 1)).map sideS).map .str)), x8, x9]) ∧ L2 PT = some (.tab QN)) (fun N hN => ?_) (fun Δ' L2 I => ?_)
      · simp only [aSeq, aAsg, Tg.A, aVar, aC, aOp, aCons, aNil, aCall, aTup, aLst, aLstM, aFrz, aRet, aIfS, aNext, aDrop, aNever, aB, aAnd, aOr, aNot, aAndV, aOrV, aNotV, aIf, aCh, aNeg, aIsN, isN, oI0, oI, oIn, oIx, oAdd, oDIn, oDGet, oSub, oMod, oFdiv, oPow, oMul, oLt, oLe, oGt, oGe, pLe, pLt, cLen, cAll, cAny, cSorted, cSortedM, cSum, cMax, cMax2, cMin2, cList, cListM, cTuple, aIsi, aTupRg, aLstRg, oNone, oSome, aSl, aRev, aRevM, aBM, mAppend, mPopAt, mInsert, aDNew, aSetI, aSetD, aPar3, aAsgU, aLenSetS, aTabS, oIsB, mIndex, cMinT, aFor, aWhile, iSeq, iRg1, iRg2, iZip, iEnum, aYes, aLc, aLcM, aPar, wipeD, setAll, eq_self, true_implies, false_implies, implies_true, and_true, true_and, ne_eq, not_false_eq_true, reduceCtorEq, Bool.not_true, Bool.not_false, ix30, ix32, at30, at31, at32, isiD_ii, isiD_bi, isiD_tt, isiD_ll, isiD_il, isiD_bl2, isiD_it, isiD_bt, isiD_st, isiD_sl, isiD_lt, isiD_si, isiD_li, isiD_bb, eqD_int, okD_i, List.set_cons_zero, List.set_cons_succ, List.getElem?_cons_zero, List.getElem?_cons_succ, List.length_cons, List.length_nil, List.map_cons, List.map_nil, Option.bind_some, put_same, Bool.xor_false, Bool.false_xor, A_fewest, see_i, see_t]
        refine ⟨by decide, [3, 4, 1, 2], rfl, rw4b, fun g hg => ?_⟩
        have := lot_uniq hg lot_3412
        subst this
        refine ⟨by decide, by decide, ne_same (d := .tup [.int 1, .tup [.int 0]]) rfl rfl rfl ?_⟩
        exact ⟨fun a => (nomatch a), fun _ => hN _ _ ⟨⟨_, rfl⟩, hPT4⟩⟩
      obtain ⟨⟨x6, rfl⟩, hPT4⟩ := I
      refine seq_cut (fun Δ' L2 => (∃ x6 : Option D, Δ' = [some (.lst (ns.map .int)), some (.int cell), some (.ref p), some (.int (3 + (n : Nat))), some (.tup ((ordR (n + 3)).map .int)), some (.tup ((outR (n + 3)).map .int)), x6, some (.tup (((laterB (n + 1)).map sideS).map .str)), x8, x9]) ∧ L2 PT = some (.tab QN)) (fun N hN => ?_) (fun Δ' L2 I => ?_)
      · simp only [aSeq, aAsg, Tg.A, aVar, aC, aOp, aCons, aNil, aCall, aTup, aLst, aLstM, aFrz, aRet, aIfS, aNext, aDrop, aNever, aB, aAnd, aOr, aNot, aAndV, aOrV, aNotV, aIf, aCh, aNeg, aIsN, isN, oI0, oI, oIn, oIx, oAdd, oDIn, oDGet, oSub, oMod, oFdiv, oPow, oMul, oLt, oLe, oGt, oGe, pLe, pLt, cLen, cAll, cAny, cSorted, cSortedM, cSum, cMax, cMax2, cMin2, cList, cListM, cTuple, aIsi, aTupRg, aLstRg, oNone, oSome, aSl, aRev, aRevM, aBM, mAppend, mPopAt, mInsert, aDNew, aSetI, aSetD, aPar3, aAsgU, aLenSetS, aTabS, oIsB, mIndex, cMinT, aFor, aWhile, iSeq, iRg1, iRg2, iZip, iEnum, aYes, aLc, aLcM, aPar, wipeD, setAll, eq_self, true_implies, false_implies, implies_true, and_true, true_and, ne_eq, not_false_eq_true, reduceCtorEq, Bool.not_true, Bool.not_false, ix30, ix32, at30, at31, at32, isiD_ii, isiD_bi, isiD_tt, isiD_ll, isiD_il, isiD_bl2, isiD_it, isiD_bt, isiD_st, isiD_sl, isiD_lt, isiD_si, isiD_li, isiD_bb, eqD_int, okD_i, List.set_cons_zero, List.set_cons_succ, List.getElem?_cons_zero, List.getElem?_cons_succ, List.length_cons, List.length_nil, List.map_cons, List.map_nil, Option.bind_some, put_same, Bool.xor_false, Bool.false_xor, A_bars, oIsB, see_i, see_t]
        refine ⟨by decide, by decide, [9, 2, 1, 4, 3], 1, 2, 3, 4, rfl, rw5, by decide, by decide, by decide, by decide, ?_⟩
        have hb : decide (Bar (at0 [9, 2, 1, 4, 3] 1) (at0 [9, 2, 1, 4, 3] 2) (at0 [9, 2, 1, 4, 3] 3) (at0 [9, 2, 1, 4, 3] 4)) = true := by decide +kernel
        rw [hb]
        exact ⟨fun a => (nomatch a), fun _ => hN _ _ ⟨⟨_, rfl⟩, hPT4⟩⟩
      obtain ⟨⟨x6, rfl⟩, hPT4⟩ := I
      refine seq_cut (fun Δ' L2 => (∃ x6 : Option D, Δ' = [some (.lst (ns.map .int)), some (.int cell), some (.ref p), some (.int (3 + (n : Nat))), some (.tup ((ordR (n + 3)).map .int)), some (.tup ((outR (n + 3)).map .int)), x6, some (.tup (((laterB (n + 1)).map sideS).map .str)), x8, x9]) ∧ L2 PT = some (.tab QN)) (fun N hN => ?_) (fun Δ' L2 I => ?_)
      · simp only [aSeq, aAsg, Tg.A, aVar, aC, aOp, aCons, aNil, aCall, aTup, aLst, aLstM, aFrz, aRet, aIfS, aNext, aDrop, aNever, aB, aAnd, aOr, aNot, aAndV, aOrV, aNotV, aIf, aCh, aNeg, aIsN, isN, oI0, oI, oIn, oIx, oAdd, oDIn, oDGet, oSub, oMod, oFdiv, oPow, oMul, oLt, oLe, oGt, oGe, pLe, pLt, cLen, cAll, cAny, cSorted, cSortedM, cSum, cMax, cMax2, cMin2, cList, cListM, cTuple, aIsi, aTupRg, aLstRg, oNone, oSome, aSl, aRev, aRevM, aBM, mAppend, mPopAt, mInsert, aDNew, aSetI, aSetD, aPar3, aAsgU, aLenSetS, aTabS, oIsB, mIndex, cMinT, aFor, aWhile, iSeq, iRg1, iRg2, iZip, iEnum, aYes, aLc, aLcM, aPar, wipeD, setAll, eq_self, true_implies, false_implies, implies_true, and_true, true_and, ne_eq, not_false_eq_true, reduceCtorEq, Bool.not_true, Bool.not_false, ix30, ix32, at30, at31, at32, isiD_ii, isiD_bi, isiD_tt, isiD_ll, isiD_il, isiD_bl2, isiD_it, isiD_bt, isiD_st, isiD_sl, isiD_lt, isiD_si, isiD_li, isiD_bb, eqD_int, okD_i, List.set_cons_zero, List.set_cons_succ, List.getElem?_cons_zero, List.getElem?_cons_succ, List.length_cons, List.length_nil, List.map_cons, List.map_nil, Option.bind_some, put_same, Bool.xor_false, Bool.false_xor, A_bars, oIsB, see_i, see_t]
        refine ⟨by decide, by decide, [9, 2, 1, 4, 3], 0, 1, 2, 3, rfl, rw5, by decide, by decide, by decide, by decide, ?_⟩
        have hb : decide (Bar (at0 [9, 2, 1, 4, 3] 0) (at0 [9, 2, 1, 4, 3] 1) (at0 [9, 2, 1, 4, 3] 2) (at0 [9, 2, 1, 4, 3] 3)) = false := by decide +kernel
        rw [hb]
        exact ⟨fun a => (nomatch a), fun _ => hN _ _ ⟨⟨_, rfl⟩, hPT4⟩⟩
      obtain ⟨⟨x6, rfl⟩, hPT4⟩ := I
      refine seq_cut (fun Δ' L2 => (∃ x6 : Option D, Δ' = [some (.lst (ns.map .int)), some (.int cell), some (.ref p), some (.int (3 + (n : Nat))), some (.tup ((ordR (n + 3)).map .int)), some (.tup ((outR (n + 3)).map .int)), x6, some (.tup (((laterB (n + 1)).map sideS).map .str)), x8, x9]) ∧ L2 PT = some (.tab QN)) (fun N hN => ?_) (fun Δ' L2 I => ?_)
      · simp only [aSeq, aAsg, Tg.A, aVar, aC, aOp, aCons, aNil, aCall, aTup, aLst, aLstM, aFrz, aRet, aIfS, aNext, aDrop, aNever, aB, aAnd, aOr, aNot, aAndV, aOrV, aNotV, aIf, aCh, aNeg, aIsN, isN, oI0, oI, oIn, oIx, oAdd, oDIn, oDGet, oSub, oMod, oFdiv, oPow, oMul, oLt, oLe, oGt, oGe, pLe, pLt, cLen, cAll, cAny, cSorted, cSortedM, cSum, cMax, cMax2, cMin2, cList, cListM, cTuple, aIsi, aTupRg, aLstRg, oNone, oSome, aSl, aRev, aRevM, aBM, mAppend, mPopAt, mInsert, aDNew, aSetI, aSetD, aPar3, aAsgU, aLenSetS, aTabS, oIsB, mIndex, cMinT, aFor, aWhile, iSeq, iRg1, iRg2, iZip, iEnum, aYes, aLc, aLcM, aPar, wipeD, setAll, eq_self, true_implies, false_implies, implies_true, and_true, true_and, ne_eq, not_false_eq_true, reduceCtorEq, Bool.not_true, Bool.not_false, ix30, ix32, at30, at31, at32, isiD_ii, isiD_bi, isiD_tt, isiD_ll, isiD_il, isiD_bl2, isiD_it, isiD_bt, isiD_st, isiD_sl, isiD_lt, isiD_si, isiD_li, isiD_bb, eqD_int, okD_i, List.set_cons_zero, List.set_cons_succ, List.getElem?_cons_zero, List.getElem?_cons_succ, List.length_cons, List.length_nil, List.map_cons, List.map_nil, Option.bind_some, put_same, Bool.xor_false, Bool.false_xor, A_fewest, see_i, see_t]
        refine ⟨by decide, [2, 1, 4, 3, 6, 5], rfl, rw6, fun g hg => ?_⟩
        have := lot_uniq hg lot_214365
        subst this
        refine ⟨by decide, by decide, ne_same (d := .tup [.int 2, .tup [.int 0, .int 2]]) rfl rfl rfl ?_⟩
        exact ⟨fun a => (nomatch a), fun _ => hN _ _ ⟨⟨_, rfl⟩, hPT4⟩⟩
      obtain ⟨⟨x6, rfl⟩, hPT4⟩ := I
      refine seq_cut (fun Δ' L2 => (∃ x6 : Option D, Δ' = [some (.lst (ns.map .int)), some (.int cell), some (.ref p), some (.int (3 + (n : Nat))), some (.tup ((ordR (n + 3)).map .int)), some (.tup ((outR (n + 3)).map .int)), x6, some (.tup (((laterB (n + 1)).map sideS).map .str)), x8, x9]) ∧ L2 PT = some (.tab QN)) (fun N hN => ?_) (fun Δ' L2 I => ?_)
      · simp only [aSeq, aAsg, Tg.A, aVar, aC, aOp, aCons, aNil, aCall, aTup, aLst, aLstM, aFrz, aRet, aIfS, aNext, aDrop, aNever, aB, aAnd, aOr, aNot, aAndV, aOrV, aNotV, aIf, aCh, aNeg, aIsN, isN, oI0, oI, oIn, oIx, oAdd, oDIn, oDGet, oSub, oMod, oFdiv, oPow, oMul, oLt, oLe, oGt, oGe, pLe, pLt, cLen, cAll, cAny, cSorted, cSortedM, cSum, cMax, cMax2, cMin2, cList, cListM, cTuple, aIsi, aTupRg, aLstRg, oNone, oSome, aSl, aRev, aRevM, aBM, mAppend, mPopAt, mInsert, aDNew, aSetI, aSetD, aPar3, aAsgU, aLenSetS, aTabS, oIsB, mIndex, cMinT, aFor, aWhile, iSeq, iRg1, iRg2, iZip, iEnum, aYes, aLc, aLcM, aPar, wipeD, setAll, eq_self, true_implies, false_implies, implies_true, and_true, true_and, ne_eq, not_false_eq_true, reduceCtorEq, Bool.not_true, Bool.not_false, ix30, ix32, at30, at31, at32, isiD_ii, isiD_bi, isiD_tt, isiD_ll, isiD_il, isiD_bl2, isiD_it, isiD_bt, isiD_st, isiD_sl, isiD_lt, isiD_si, isiD_li, isiD_bb, eqD_int, okD_i, List.set_cons_zero, List.set_cons_succ, List.getElem?_cons_zero, List.getElem?_cons_succ, List.length_cons, List.length_nil, List.map_cons, List.map_nil, Option.bind_some, put_same, Bool.xor_false, Bool.false_xor, A_worth, see_i, see_t]
        refine ⟨by decide, by decide, [2, 1, 4, 3, 6, 5], [1, 1, 1, 1, 9, 9], rfl, rw6, ⟨rfl, by decide⟩, ?_⟩
        have hw : bst [2, 1, 4, 3, 6, 5] [1, 1, 1, 1, 9, 9] = 20 := worth_20
        rw [hw]
        refine ne_same (d := .int 20) rfl rfl rfl ?_
        exact ⟨fun a => (nomatch a), fun _ => hN _ _ ⟨⟨_, rfl⟩, hPT4⟩⟩
      obtain ⟨⟨x6, rfl⟩, hPT4⟩ := I
      refine seq_cut (fun Δ' L2 => (∃ x6 : Option D, Δ' = [some (.lst (ns.map .int)), some (.int cell), some (.ref p), some (.int (3 + (n : Nat))), some (.tup ((ordR (n + 3)).map .int)), some (.tup ((outR (n + 3)).map .int)), x6, some (.tup (((laterB (n + 1)).map sideS).map .str)), x8, x9]) ∧ L2 PT = some (.tab QN)) (fun N hN => ?_) (fun Δ' L2 I => ?_)
      · simp only [aSeq, aAsg, Tg.A, aVar, aC, aOp, aCons, aNil, aCall, aTup, aLst, aLstM, aFrz, aRet, aIfS, aNext, aDrop, aNever, aB, aAnd, aOr, aNot, aAndV, aOrV, aNotV, aIf, aCh, aNeg, aIsN, isN, oI0, oI, oIn, oIx, oAdd, oDIn, oDGet, oSub, oMod, oFdiv, oPow, oMul, oLt, oLe, oGt, oGe, pLe, pLt, cLen, cAll, cAny, cSorted, cSortedM, cSum, cMax, cMax2, cMin2, cList, cListM, cTuple, aIsi, aTupRg, aLstRg, oNone, oSome, aSl, aRev, aRevM, aBM, mAppend, mPopAt, mInsert, aDNew, aSetI, aSetD, aPar3, aAsgU, aLenSetS, aTabS, oIsB, mIndex, cMinT, aFor, aWhile, iSeq, iRg1, iRg2, iZip, iEnum, aYes, aLc, aLcM, aPar, wipeD, setAll, eq_self, true_implies, false_implies, implies_true, and_true, true_and, ne_eq, not_false_eq_true, reduceCtorEq, Bool.not_true, Bool.not_false, ix30, ix32, at30, at31, at32, isiD_ii, isiD_bi, isiD_tt, isiD_ll, isiD_il, isiD_bl2, isiD_it, isiD_bt, isiD_st, isiD_sl, isiD_lt, isiD_si, isiD_li, isiD_bb, eqD_int, okD_i, List.set_cons_zero, List.set_cons_succ, List.getElem?_cons_zero, List.getElem?_cons_succ, List.length_cons, List.length_nil, List.map_cons, List.map_nil, Option.bind_some, put_same, Bool.xor_false, Bool.false_xor, A_filled, see_i, see_t]
        have h1 : hidB (.tup ([none, none, none].map oD)) = true := by decide +kernel
        have h2 : hidB (.tup ([some 2, none, some 4, none].map oD)) = true := by decide +kernel
        refine ⟨by decide, [none, none, none], rfl, h1, by decide, by decide, by decide, ?_⟩
        rw [fills_3]
        refine ne_same (d := .tup [.int 6, .tup [.int 1, .int 2, .int 3]]) rfl rfl rfl ?_
        refine ⟨fun a => (nomatch a), fun _ => ⟨by decide, [some 2, none, some 4, none], rfl, h2, by decide, by decide, by decide, ?_⟩⟩
        rw [fills_24]
        refine ne_same (d := .tup [.int 1, .tup [.int 2, .int 3, .int 4, .int 1]]) rfl rfl rfl ?_
        exact ⟨fun a => (nomatch a), fun _ => hN _ _ ⟨⟨_, rfl⟩, hPT4⟩⟩
      obtain ⟨⟨x6, rfl⟩, hPT4⟩ := I
      refine seq_cut (fun Δ' L2 => (∃ (x6 : Option D) (pl : Addr), Δ' = [some (.lst (ns.map .int)), some (.int cell), some (.ref p), some (.int (3 + (n : Nat))), some (.tup ((ordR (n + 3)).map .int)), some (.tup ((outR (n + 3)).map .int)), x6, some (.tup (((laterB (n + 1)).map sideS).map .str)), some (.ref pl), x9] ∧ L2 pl = some (laidC CL []) ∧ pl ≠ PT) ∧ L2 PT = some (.tab QN)) (fun N hN => ?_) (fun Δ' L2 I => ?_)
      · simp only [aSeq, aAsg, Tg.A, aVar, aC, aOp, aCons, aNil, aCall, aTup, aLst, aLstM, aFrz, aRet, aIfS, aNext, aDrop, aNever, aB, aAnd, aOr, aNot, aAndV, aOrV, aNotV, aIf, aCh, aNeg, aIsN, isN, oI0, oI, oEq, oIn, oIx, oAdd, oDIn, oDGet, oSub, oMod, oFdiv, oPow, oMul, oLt, oLe, oGt, oGe, pLe, pLt, see, items, cLen, cAll, cAny, cSorted, cSortedM, cSum, cMax, cMax2, cMin2, cList, cListM, cTuple, aIsi, aTupRg, aLstRg, oNone, oSome, aSl, aRev, aRevM, aBM, mAppend, mPopAt, mInsert, aDNew, aSetI, aSetD, aPar3, aAsgU, aLenSetS, aTabS, oIsB, mIndex, cMinT, aFor, aWhile, iSeq, seqOf, iRg1, iRg2, iZip, iEnum, aYes, aLc, aLcM, aPar, wipeD, setAll, tyD, eq_self, true_implies, false_implies, implies_true, and_true, true_and, ne_eq, not_false_eq_true, reduceCtorEq, Bool.not_true, Bool.not_false, ix30, ix32, at30, at31, at32, isiD_ii, isiD_bi, isiD_tt, isiD_ll, isiD_il, isiD_bl2, isiD_it, isiD_bt, isiD_st, isiD_sl, isiD_lt, isiD_si, isiD_li, isiD_bb, eqD_int, okD_i, List.set_cons_zero, List.set_cons_succ, List.getElem?_cons_zero, List.getElem?_cons_succ, List.length_cons, List.length_nil, List.map_cons, List.map_nil, Option.bind_some, put_same, Bool.xor_false, Bool.false_xor, aMake, A_Laid_init]
        intro pl hpl
        have hplP : pl ≠ PT := fun e => by rw [e, hPT4] at hpl; cases hpl
        refine ⟨pl, rfl, put_same, ?_⟩
        rw [put_put]
        exact hN _ _ ⟨⟨_, pl, rfl, put_same, hplP⟩, by rw [put_ne (Ne.symm hplP)]; exact hPT4⟩
      obtain ⟨⟨x6, pl, rfl, hpl, hplP⟩, hPT4⟩ := I
      refine seq_cut (fun Δ' L2 => (∃ (x6 x9 : Option D), Δ' = [some (.lst (ns.map .int)), some (.int cell), some (.ref p), some (.int (3 + (n : Nat))), some (.tup ((ordR (n + 3)).map .int)), some (.tup ((outR (n + 3)).map .int)), x6, some (.tup (((laterB (n + 1)).map sideS).map .str)), some (.ref pl), x9]) ∧ L2 pl = some (laidC CL [2, 1, 4]) ∧ L2 PT = some (.tab QN)) (fun N hN => ?_) (fun Δ' L2 I => ?_)
      · simp only [aSeq, aAsg, Tg.A, aVar, aC, aOp, aCons, aNil, aCall, aTup, aLst, aLstM, aFrz, aRet, aIfS, aNext, aDrop, aNever, aB, aAnd, aOr, aNot, aAndV, aOrV, aNotV, aIf, aCh, aNeg, aIsN, isN, oI0, oI, oEq, oIn, oIx, oAdd, oDIn, oDGet, oSub, oMod, oFdiv, oPow, oMul, oLt, oLe, oGt, oGe, pLe, pLt, see, items, cLen, cAll, cAny, cSorted, cSortedM, cSum, cMax, cMax2, cMin2, cList, cListM, cTuple, aIsi, aTupRg, aLstRg, oNone, oSome, aSl, aRev, aRevM, aBM, mAppend, mPopAt, mInsert, aDNew, aSetI, aSetD, aPar3, aAsgU, aLenSetS, aTabS, oIsB, mIndex, cMinT, aFor, aWhile, iSeq, seqOf, iRg1, iRg2, iZip, iEnum, aYes, aLc, aLcM, aPar, wipeD, setAll, tyD, eq_self, true_implies, false_implies, implies_true, and_true, true_and, ne_eq, not_false_eq_true, reduceCtorEq, Bool.not_true, Bool.not_false, ix30, ix32, at30, at31, at32, isiD_ii, isiD_bi, isiD_tt, isiD_ll, isiD_il, isiD_bl2, isiD_it, isiD_bt, isiD_st, isiD_sl, isiD_lt, isiD_si, isiD_li, isiD_bb, eqD_int, okD_i, List.set_cons_zero, List.set_cons_succ, List.getElem?_cons_zero, List.getElem?_cons_succ, List.length_cons, List.length_nil, List.map_cons, List.map_nil, Option.bind_some, put_same, Bool.xor_false, Bool.false_xor]
        refine ⟨by decide, ?_⟩
        refine forA_ind (fun i Δ L3 => (∃ x9 : Option D, Δ = [some (.lst (ns.map .int)), some (.int cell), some (.ref p), some (.int (3 + (n : Nat))), some (.tup ((ordR (n + 3)).map .int)), some (.tup ((outR (n + 3)).map .int)), x6, some (.tup (((laterB (n + 1)).map sideS).map .str)), some (.ref pl), x9]) ∧ L3 pl = some (laidC CL (([2, 1, 4] : List Int).take i)) ∧ L3 PT = some (.tab QN)) (fun _ _ _ _ => trivial) (fun i d Δ L3 N3 e3 I3 hN3 => ?_) (fun Δ L3 I3 => ?_) ⟨⟨_, rfl⟩, hpl, hPT4⟩
        · obtain ⟨⟨x9, rfl⟩, hp3, hPT5⟩ := I3
          have step : ∀ (r : List Int) (c : Int), L3 pl = some (laidC CL r) → d = .int c → Lays r c → fourWith (r ++ [c]) r.length = none → r ++ [c] = ([2, 1, 4] : List Int).take (i + 1) →
              (Tg.one 9).A d [some (.lst (ns.map .int)), some (.int cell), some (.ref p), some (.int (3 + (n : Nat))), some (.tup ((ordR (n + 3)).map .int)), some (.tup ((outR (n + 3)).map .int)), x6, some (.tup (((laterB (n + 1)).map sideS).map .str)), some (.ref pl), x9] L3 fun Δ' L' => aDrop (aMeth CL "lay" (A_Laid_lay CL) (aVar 8) (aCons (aVar 9) aNil)) { nx := N3, rt := Rt Kk, bk := N, ct := N3 } Δ' L' := fun r c h1 h2 h3 h4 h5 => by
            subst h2
            simp only [aSeq, aAsg, Tg.A, aVar, aC, aOp, aCons, aNil, aCall, aTup, aLst, aLstM, aFrz, aRet, aIfS, aNext, aDrop, aNever, aB, aAnd, aOr, aNot, aAndV, aOrV, aNotV, aIf, aCh, aNeg, aIsN, isN, oI0, oI, oEq, oIn, oIx, oAdd, oDIn, oDGet, oSub, oMod, oFdiv, oPow, oMul, oLt, oLe, oGt, oGe, pLe, pLt, see, items, cLen, cAll, cAny, cSorted, cSortedM, cSum, cMax, cMax2, cMin2, cList, cListM, cTuple, aIsi, aTupRg, aLstRg, oNone, oSome, aSl, aRev, aRevM, aBM, mAppend, mPopAt, mInsert, aDNew, aSetI, aSetD, aPar3, aAsgU, aLenSetS, aTabS, oIsB, mIndex, cMinT, aFor, aWhile, iSeq, seqOf, iRg1, iRg2, iZip, iEnum, aYes, aLc, aLcM, aPar, wipeD, setAll, tyD, eq_self, true_implies, false_implies, implies_true, and_true, true_and, ne_eq, not_false_eq_true, reduceCtorEq, Bool.not_true, Bool.not_false, ix30, ix32, at30, at31, at32, isiD_ii, isiD_bi, isiD_tt, isiD_ll, isiD_il, isiD_bl2, isiD_it, isiD_bt, isiD_st, isiD_sl, isiD_lt, isiD_si, isiD_li, isiD_bb, eqD_int, okD_i, List.set_cons_zero, List.set_cons_succ, List.getElem?_cons_zero, List.getElem?_cons_succ, List.length_cons, List.length_nil, List.map_cons, List.map_nil, Option.bind_some, put_same, Bool.xor_false, Bool.false_xor, aMeth, A_Laid_lay]
            refine ⟨pl, _, rfl, h1, lk_none (by decide), pl, r, c, rfl, h1, h3, h4, ?_⟩
            refine hN3 _ _ ⟨⟨_, rfl⟩, by rw [put_same, h5], by rw [put_ne (Ne.symm hplP)]; exact hPT5⟩
          match i, e3, hp3, step with
          | 0, e3, hp3, step => cases e3; exact step [] 2 hp3 rfl ⟨⟨by decide, by decide, by decide, by decide⟩, by decide⟩ (by decide +kernel) rfl
          | 1, e3, hp3, step => cases e3; exact step [2] 1 hp3 rfl ⟨⟨by decide, by decide, by decide, by decide⟩, by decide⟩ (by decide +kernel) rfl
          | 2, e3, hp3, step => cases e3; exact step [2, 1] 4 hp3 rfl ⟨⟨by decide, by decide, by decide, by decide⟩, by decide⟩ (by decide +kernel) rfl
          | i + 3, e3, hp3, step => simp at e3
        · obtain ⟨⟨x9, rfl⟩, hp3, hPT5⟩ := I3
          exact hN _ _ ⟨⟨_, _, rfl⟩, hp3, hPT5⟩
      obtain ⟨⟨x6, x9, rfl⟩, hpl, hPT4⟩ := I
      refine seq_cut (fun Δ' L2 => (∃ (x6 x9 : Option D), Δ' = [some (.lst (ns.map .int)), some (.int cell), some (.ref p), some (.int (3 + (n : Nat))), some (.tup ((ordR (n + 3)).map .int)), some (.tup ((outR (n + 3)).map .int)), x6, some (.tup (((laterB (n + 1)).map sideS).map .str)), some (.ref pl), x9]) ∧ L2 pl = some (laidC CL [2, 1, 4]) ∧ L2 PT = some (.tab QN)) (fun N hN => ?_) (fun Δ' L2 I => ?_)
      · simp only [aSeq, aAsg, Tg.A, aVar, aC, aOp, aCons, aNil, aCall, aTup, aLst, aLstM, aFrz, aRet, aIfS, aNext, aDrop, aNever, aB, aAnd, aOr, aNot, aAndV, aOrV, aNotV, aIf, aCh, aNeg, aIsN, isN, oI0, oI, oIn, oIx, oAdd, oDIn, oDGet, oSub, oMod, oFdiv, oPow, oMul, oLt, oLe, oGt, oGe, pLe, pLt, cLen, cAll, cAny, cSorted, cSortedM, cSum, cMax, cMax2, cMin2, cList, cListM, cTuple, aIsi, aTupRg, aLstRg, oNone, oSome, aSl, aRev, aRevM, aBM, mAppend, mPopAt, mInsert, aDNew, aSetI, aSetD, aPar3, aAsgU, aLenSetS, aTabS, oIsB, mIndex, cMinT, aFor, aWhile, iSeq, iRg1, iRg2, iZip, iEnum, aYes, aLc, aLcM, aPar, wipeD, setAll, eq_self, true_implies, false_implies, implies_true, and_true, true_and, ne_eq, not_false_eq_true, reduceCtorEq, Bool.not_true, Bool.not_false, ix30, ix32, at30, at31, at32, isiD_ii, isiD_bi, isiD_tt, isiD_ll, isiD_il, isiD_bl2, isiD_it, isiD_bt, isiD_st, isiD_sl, isiD_lt, isiD_si, isiD_li, isiD_bb, eqD_int, okD_i, List.set_cons_zero, List.set_cons_succ, List.getElem?_cons_zero, List.getElem?_cons_succ, List.length_cons, List.length_nil, List.map_cons, List.map_nil, Option.bind_some, put_same, Bool.xor_false, Bool.false_xor, aMeth, A_Laid_can_be_laid, see_i, see_t]
        have hg : laidR [2, 1, 4] = [(0, 0), (5, 1000000000)] := by decide +kernel
        refine ⟨pl, _, rfl, hpl, lk_none (by decide), pl, [2, 1, 4], rfl, hpl, by decide, by decide, ⟨by decide, by decide, by decide⟩, by decide, by decide, ?_⟩
        rw [hg]
        refine ne_same (d := .lst [.tup [.int 0, .int 0], .tup [.int 5, .int 1000000000]]) rfl rfl rfl ?_
        exact ⟨fun a => (nomatch a), fun _ => hN _ _ ⟨⟨_, _, rfl⟩, hpl, hPT4⟩⟩
      obtain ⟨⟨x6, x9, rfl⟩, hpl, hPT4⟩ := I
      simp only [aSeq, aAsg, Tg.A, aVar, aC, aOp, aCons, aNil, aCall, aTup, aLst, aLstM, aFrz, aRet, aIfS, aNext, aDrop, aNever, aB, aAnd, aOr, aNot, aAndV, aOrV, aNotV, aIf, aCh, aNeg, aIsN, isN, oI0, oI, oIn, oIx, oAdd, oDIn, oDGet, oSub, oMod, oFdiv, oPow, oMul, oLt, oLe, oGt, oGe, pLe, pLt, cLen, cAll, cAny, cSorted, cSortedM, cSum, cMax, cMax2, cMin2, cList, cListM, cTuple, aIsi, aTupRg, aLstRg, oNone, oSome, aSl, aRev, aRevM, aBM, mAppend, mPopAt, mInsert, aDNew, aSetI, aSetD, aPar3, aAsgU, aLenSetS, aTabS, oIsB, mIndex, cMinT, aFor, aWhile, iSeq, iRg1, iRg2, iZip, iEnum, aYes, aLc, aLcM, aPar, wipeD, setAll, eq_self, true_implies, false_implies, implies_true, and_true, true_and, ne_eq, not_false_eq_true, reduceCtorEq, Bool.not_true, Bool.not_false, ix30, ix32, at30, at31, at32, isiD_ii, isiD_bi, isiD_tt, isiD_ll, isiD_il, isiD_bl2, isiD_it, isiD_bt, isiD_st, isiD_sl, isiD_lt, isiD_si, isiD_li, isiD_bb, eqD_int, okD_i, List.set_cons_zero, List.set_cons_succ, List.getElem?_cons_zero, List.getElem?_cons_succ, List.length_cons, List.length_nil, List.map_cons, List.map_nil, Option.bind_some, put_same, Bool.xor_false, Bool.false_xor, aDoorB]
      have ok3 : okD 64 (.lst [.str "Barred+", .tup [.int 0, .int 1, .int 2, .int 3]]) = true := by decide +kernel
      refine ⟨hPT4, pl, _, rfl, hpl, lk_none (by decide), .tup (([0, 1, 2, 3] : List Int).map .int), ⟨pl, [2, 1, 4], 3, [0, 1, 2, 3], rfl, hpl, ⟨⟨by decide, by decide, by decide, by decide⟩, by decide⟩, by decide +kernel, rfl⟩, by decide, by decide, ?_⟩
      refine ne_same (d := .lst [.str "Barred+", .tup [.int 0, .int 1, .int 2, .int 3]]) rfl rfl ok3 ?_
      exact ⟨fun a => (nomatch a), fun _ => hN _ _ ⟨⟨_, _, _, _, _, _, _, _, _, rfl⟩, hPT4⟩⟩
    · exact hN _ _ trivial
  · simp only [aSeq, aAsg, Tg.A, aVar, aC, aOp, aCons, aNil, aCall, aTup, aLst, aLstM, aFrz, aRet, aIfS, aNext, aDrop, aNever, aB, aAnd, aOr, aNot, aAndV, aOrV, aNotV, aIf, aCh, aNeg, aIsN, isN, oI0, oI, oEq, oIn, oIx, oAdd, oDIn, oDGet, oSub, oMod, oFdiv, oPow, oMul, oLt, oLe, oGt, oGe, pLe, pLt, see, items, cLen, cAll, cAny, cSorted, cSortedM, cSum, cMax, cMax2, cMin2, cList, cListM, cTuple, aIsi, aTupRg, aLstRg, oNone, oSome, aSl, aRev, aRevM, aBM, mAppend, mPopAt, mInsert, aDNew, aSetI, aSetD, aPar3, aAsgU, aLenSetS, aTabS, oIsB, mIndex, cMinT, aFor, aWhile, iSeq, seqOf, iRg1, iRg2, iZip, iEnum, aYes, aLc, aLcM, aPar, wipeD, setAll, tyD, eq_self, true_implies, false_implies, implies_true, and_true, true_and, ne_eq, not_false_eq_true, reduceCtorEq, Bool.not_true, Bool.not_false, ix30, ix32, at30, at31, at32, isiD_ii, isiD_bi, isiD_tt, isiD_ll, isiD_il, isiD_bl2, isiD_it, isiD_bt, isiD_st, isiD_sl, isiD_lt, isiD_si, isiD_li, isiD_bb, eqD_int, okD_i, List.set_cons_zero, List.set_cons_succ, List.getElem?_cons_zero, List.getElem?_cons_succ, List.length_cons, List.length_nil, List.map_cons, List.map_nil, Option.bind_some, put_same, Bool.xor_false, Bool.false_xor]
    exact Rt.same (h _)
end Wv

namespace Wv
open PySem PySem.Spec PyProof.Rows L2
def top (i : Nat) : Stmt := PySem.Challenge.pw_wovenway_k13_whole_small_rows_by_words.main.body.getD i (.Pass ⟨0, 0, 0, 0⟩)
abbrev s_is_from : Stmt := top 15
abbrev s_is_rising : Stmt := top 16
abbrev s_is_row : Stmt := top 17
abbrev s_need_row : Stmt := top 18
abbrev s_next_last : Stmt := top 19
abbrev s_begun : Stmt := top 20
abbrev s_good_from : Stmt := top 21
abbrev s_all_partings : Stmt := top 22
abbrev s_is_woven : Stmt := top 23
abbrev s_parting : Stmt := top 24
abbrev s_how_many : Stmt := top 25
abbrev s_sides_of : Stmt := top 26
abbrev s_sides : Stmt := top 27
abbrev s_barring : Stmt := top 29
abbrev s_four_with : Stmt := top 30
abbrev s_four : Stmt := top 31
abbrev s_bars : Stmt := top 32
abbrev s_most_from : Stmt := top 35
abbrev s_stays : Stmt := top 36
abbrev s_leaving : Stmt := top 37
abbrev s_fewest : Stmt := top 38
abbrev s_need_worths : Stmt := top 39
abbrev s_worth : Stmt := top 40
abbrev s_seams : Stmt := top 42
abbrev s_is_hidden : Stmt := top 45
abbrev s_filled : Stmt := top 46
abbrev s_Laid_init : Stmt := inClass (top 48) 0
abbrev s_Laid_lay : Stmt := inClass (top 48) 3
abbrev s_Laid_can_be_laid : Stmt := inClass (top 48) 8
abbrev s__law_deck : Stmt := top 50
abbrev s__law_pick : Stmt := top 51
abbrev s_law : Stmt := top 54
abbrev s__law_kin : Stmt := top 52
abbrev s__law_try : Stmt := top 53
abbrev N__law_try : List Str := ["door", "found", "e"]
abbrev N__law_kin : List Str := ["e", "kinds_met", "names", "name", "good"]
theorem sc__law_kin : FnScope N__law_kin ["e"] (defScope s__law_kin) := ⟨rfl, rfl, rfl, by decide +kernel, rfl, by decide +kernel, by decide +kernel⟩
theorem sc__law_try : FnScope N__law_try ["door"] (defScope s__law_try) := ⟨rfl, rfl, rfl, by decide +kernel, rfl, by decide +kernel, by decide +kernel⟩
section
variable {P : Program} {w : World} {K : PySem.W.Frag} {mg : Str → Option Value} {base : Heap}
def rJoinK (K : PySem.W.Frag) : V → List V → Hp → VK → Prop := fun x xs H Q => ∃ a p, ∃ ys : List Str, x = .str a ∧ xs = [.ref p] ∧ (SqL K H p (ys.map V.str) ∨ SqT K H p (ys.map V.str)) ∧ (ys.map (·.length)).sum + ys.length * a.length ≤ 16777216 ∧ Q (.str (Txt.join a ys)) H
theorem pe_joinK {X : Cx} {K : PySem.W.Frag} (hK : X.K = K) {o e : Expr} {to te : TE} {apos pos : Pos} (ho : PE X o to) (he : PE X e te) (hs : starEach [e] X.env = [(false, eval e X.env)] := by rfl) (hbase : attributeBase o "join" X.env (eval o X.env) = eval o X.env := by rfl) (hline : (apos.endLine == pos.line) = true := by rfl) :
    PE X (.Call (.Attribute o "join" apos) [e] [] pos) (tM1 (rJoinK K) to te) := by
  subst hK
  exact pe_join ho he hs hbase hline
abbrev kinNames : List Str := ["NoRow", "NoWorths", "NoNumber", "NoHidden", "NoCard", "Taken", "Full", "NoneLeft", "Barred", "+"]
theorem upd_keep {H : Hp} {a b : Addr} {v o : HO} (e : H b = some o) (n : H a = none) : upd H a v b = some o := (upd_ne (ne_of_none e n)).trans e
theorem keptV_map {α β : Type} (f : α → β) : ∀ (xs : List α) (bs : List Bool), keptV (xs.map f) bs = (keptV xs bs).map f
  | [], bs => by unfold keptV; simp
  | _ :: _, [] => by unfold keptV; simp
  | x :: xs, b :: bs => by
    rw [List.map_cons, keptV_cons, keptV_cons, keptV_map f xs bs]
    cases b <;> rfl
theorem keptV_sum : ∀ (xs : List Str) (bs : List Bool), ((keptV xs bs).map (·.length)).sum ≤ (xs.map (·.length)).sum
  | [], bs => by unfold keptV; simp
  | _ :: _, [] => by unfold keptV; simp
  | x :: xs, b :: bs => by
    have := keptV_sum xs bs
    rw [keptV_cons]
    cases b <;> simp <;> omega
/-- the classes that the law's kin asks of, an exception's class D beside them -/
structure KinT (K : PySem.W.Frag) (mg : Str → Option Value) (D : Addr) (b1 b2 b3 b4 b5 b6 b7 b8 b9 b10 : Bool) : Prop where
  ec : ExcC K D
  zip : mg "zip" = none
  isi : mg "isinstance" = none
  val : mg "ValueError" = none
  c1 : ∃ C : Addr, mg "NoRow" = some (.ref C) ∧ PySem.W.kitOne K (.ref D) (.ref C) = some b1
  c2 : ∃ C : Addr, mg "NoWorths" = some (.ref C) ∧ PySem.W.kitOne K (.ref D) (.ref C) = some b2
  c3 : ∃ C : Addr, mg "NoNumber" = some (.ref C) ∧ PySem.W.kitOne K (.ref D) (.ref C) = some b3
  c4 : ∃ C : Addr, mg "NoHidden" = some (.ref C) ∧ PySem.W.kitOne K (.ref D) (.ref C) = some b4
  c5 : ∃ C : Addr, mg "NoCard" = some (.ref C) ∧ PySem.W.kitOne K (.ref D) (.ref C) = some b5
  c6 : ∃ C : Addr, mg "Taken" = some (.ref C) ∧ PySem.W.kitOne K (.ref D) (.ref C) = some b6
  c7 : ∃ C : Addr, mg "Full" = some (.ref C) ∧ PySem.W.kitOne K (.ref D) (.ref C) = some b7
  c8 : ∃ C : Addr, mg "NoneLeft" = some (.ref C) ∧ PySem.W.kitOne K (.ref D) (.ref C) = some b8
  c9 : ∃ C : Addr, mg "Barred" = some (.ref C) ∧ PySem.W.kitOne K (.ref D) (.ref C) = some b9
  c10 : PySem.W.kitOne K (.ref D) (.type "ValueError") = some b10
/-- isinstance's rule and what it reads, over the exceptions at a -/
structure IsiOk (K : PySem.W.Frag) (D a : Addr) (G : Hp → Prop) (rI : List V → Hp → VK → Prop) : Prop where
  ext : ∀ H H', (∀ b o, H b = some o → H' b = some o) → G H → G H'
  rd : ∀ (c : V) (cv : Value) (b : Bool) (H : Hp) (Q : VK), G H → (∀ u, RelV c u → u = cv) → PySem.W.kitOne K (.ref D) cv = some b → Q (.bl b) H → rI [.ref a, c] H Q
theorem kin_gen {D a : Addr} {b1 b2 b3 b4 b5 b6 b7 b8 b9 b10 : Bool} {G : Hp → Prop} {rI : List V → Hp → VK → Prop} (T : KinT K mg D b1 b2 b3 b4 b5 b6 b7 b8 b9 b10) (R : IsiOk K D a G rI) :
    ∃ t : TS, (∀ (f : Addr) (oe : Obj), (∀ X : Cx, X.K = K → (a, oe) ∈ X.pn → CallR X (.builtin "isinstance") rI) → ∀ (cdv : Value) (A : Around) (outer : List Env) (s : Shared) (H : Hp), L2H.Hot1 (A.deeper (envOfC "_law_kin" (defScope s__law_kin) s.heap.objs.size f cdv)) (a, oe) → PSs (L2H.cxH C8.CX0 P w K mg base N__law_kin "_law_kin" (defScope s__law_kin) f cdv A outer s H C8.E0 (a, oe)) (defBody s__law_kin) t) ∧
      ∀ (H : Hp) (Q : VK), G H → (∀ H', (∀ b o, H b = some o → H' b = some o) → Q (.str (Txt.join "" (keptV kinNames [b1, b2, b3, b4, b5, b6, b7, b8, b9, b10]))) H') → t { nx := fun _ H' => Q .non H', rt := Q } (L2.start N__law_kin [.ref a]) H := by
  obtain ⟨C1, g1, q1⟩ := T.c1
  obtain ⟨C2, g2, q2⟩ := T.c2
  obtain ⟨C3, g3, q3⟩ := T.c3
  obtain ⟨C4, g4, q4⟩ := T.c4
  obtain ⟨C5, g5, q5⟩ := T.c5
  obtain ⟨C6, g6, q6⟩ := T.c6
  obtain ⟨C7, g7, q7⟩ := T.c7
  obtain ⟨C8', g8, q8⟩ := T.c8
  obtain ⟨C9, g9, q9⟩ := T.c9
  have ve : bootBuiltins "ValueError" = some (.type "ValueError") := by decide +kernel
  have is : bootBuiltins "isinstance" = some (.builtin "isinstance") := by decide +kernel
  apply Exists.intro
  refine And.intro (fun f oe hcall cdv A outer s H hot => ?_) (fun H Q hG hQ => ?_)
  · have I : ∀ {x : Str} {C : Addr} {p1 p2 p3 p4 : Pos}, Gl (L2H.cxH C8.CX0 P w K mg base N__law_kin "_law_kin" (defScope s__law_kin) f cdv A outer s H C8.E0 (a, oe)) x → mg x = some (.ref C) → (x == ("__debug__" : Str)) = false →
        PE (L2H.cxH C8.CX0 P w K mg base N__law_kin "_law_kin" (defScope s__law_kin) f cdv A outer s H C8.E0 (a, oe)) (.Call (.Name "isinstance" p1) [.Name "e" p2, .Name x p3] [] p4) (tCB rI (tCons (tVar 0) (tCons (tC (.ref C)) tNil))) := fun hg hm hdb =>
      pe_callB (hcall _ rfl (List.mem_singleton.mpr rfl)) (by rfl) T.isi is (pa_cons (pv 0) (pa_cons (pe_glob hg hm rfl hdb) pa_nil))
    have V : ∀ {p1 p2 p3 p4 : Pos}, PE (L2H.cxH C8.CX0 P w K mg base N__law_kin "_law_kin" (defScope s__law_kin) f cdv A outer s H C8.E0 (a, oe)) (.Call (.Name "isinstance" p1) [.Name "e" p2, .Name "ValueError" p3] [] p4) (tCB rI (tCons (tVar 0) (tCons (tC (.ty "ValueError")) tNil))) :=
      pe_callB (hcall _ rfl (List.mem_singleton.mpr rfl)) (by rfl) T.isi is (pa_cons (pv 0) (pa_cons (pe_bltn (by rfl) T.val ve rfl) pa_nil))
    apply pss_cons
    · exact ps_set (i := 1) sc__law_kin.nd rfl (.inl rfl) (pe_lst (pa_cons (I (by rfl) g1 (by decide)) (pa_cons (I (by rfl) g2 (by decide)) (pa_cons (I (by rfl) g3 (by decide)) (pa_cons (I (by rfl) g4 (by decide)) pa_nil)))))
    apply pss_cons
    · exact ps_set (i := 1) sc__law_kin.nd rfl (.inl rfl) (pe_op op_cat (pv 1) (pe_lst (pa_cons (I (by rfl) g5 (by decide)) (pa_cons (I (by rfl) g6 (by decide)) (pa_cons (I (by rfl) g7 (by decide)) pa_nil)))))
    apply pss_cons
    · exact ps_set (i := 1) sc__law_kin.nd rfl (.inl rfl) (pe_op op_cat (pv 1) (pe_lst (pa_cons (I (by rfl) g8 (by decide)) (pa_cons (I (by rfl) g9 (by decide)) (pa_cons V pa_nil)))))
    apply pss_cons
    · exact ps_set (i := 2) sc__law_kin.nd rfl (.inl rfl) (pe_lst (pa_cons pe_str (pa_cons pe_str (pa_cons pe_str (pa_cons pe_str (pa_cons pe_str (pa_cons pe_str (pa_cons pe_str (pa_cons pe_str (pa_cons pe_str (pa_cons pe_str pa_nil)))))))))))
    apply pss_one
    apply ps_ret
    apply pe_joinK (K := K) rfl
    · exact pe_str
    exact pe_compH (i := 2) (j := 1) ⟨(a, oe), hot, List.mem_singleton.mpr rfl⟩ rfl rfl rfl rfl (by decide) (by decide) (by rfl) T.zip (by decide +kernel) rfl rfl rfl (by decide) (by decide) (by decide) (by decide) (by decide)
  · have four : (4 : Nat) ≤ sizeLine := by decide
    have three : (3 : Nat) ≤ sizeLine := by decide
    have ten : (10 : Nat) ≤ sizeLine := by decide
    have up : ∀ {H0 : Hp} {p : Addr} {o : HO}, H0 p = none → ∀ b o', H0 b = some o' → upd H0 p o b = some o' := fun n b o' e => upd_keep e n
    have g0 := hG
    refine ⟨_, rfl, R.rd _ _ _ _ _ g0 (fun u r => r) q1 ⟨_, rfl, R.rd _ _ _ _ _ g0 (fun u r => r) q2 ⟨_, rfl, R.rd _ _ _ _ _ g0 (fun u r => r) q3 ⟨_, rfl, R.rd _ _ _ _ _ g0 (fun u r => r) q4 ⟨four, fun l1 n1 => ?_⟩⟩⟩⟩⟩
    have g1' := R.ext _ _ (up (o := .lst [.bl b1, .bl b2, .bl b3, .bl b4]) n1) g0
    refine ⟨_, rfl, _, rfl, R.rd _ _ _ _ _ g1' (fun u r => r) q5 ⟨_, rfl, R.rd _ _ _ _ _ g1' (fun u r => r) q6 ⟨_, rfl, R.rd _ _ _ _ _ g1' (fun u r => r) q7 ⟨three, fun l2 n2 => ?_⟩⟩⟩⟩
    have g2' := R.ext _ _ (up (o := .lst [.bl b5, .bl b6, .bl b7]) n2) g1'
    have d12 : l1 ≠ l2 := ne_of_none upd_same n2
    refine ⟨l1, l2, _, _, rfl, rfl, (upd_ne d12).trans upd_same, upd_same, (show (7 : Nat) ≤ sizeLine by decide), fun l3 n3 => ?_⟩
    have g3' := R.ext _ _ (up (o := .lst ([.bl b1, .bl b2, .bl b3, .bl b4] ++ [.bl b5, .bl b6, .bl b7])) n3) g2'
    refine ⟨_, rfl, _, rfl, R.rd _ _ _ _ _ g3' (fun u r => r) q8 ⟨_, rfl, R.rd _ _ _ _ _ g3' (fun u r => r) q9 ⟨_, rfl, R.rd _ _ _ _ _ g3' (fun u r => r) T.c10 ⟨three, fun l4 n4 => ?_⟩⟩⟩⟩
    have d34 : l3 ≠ l4 := ne_of_none upd_same n4
    refine ⟨l3, l4, _, _, rfl, rfl, (upd_ne d34).trans upd_same, upd_same, (show (10 : Nat) ≤ sizeLine by decide), fun l5 n5 => ?_⟩
    refine ⟨ten, fun l6 n6 => ?_⟩
    have d56 : l5 ≠ l6 := ne_of_none upd_same n6
    refine ⟨⟨_, rfl⟩, l6, l5, kinNames.map V.str, [b1, b2, b3, b4, b5, b6, b7, b8, b9, b10], rfl, rfl, upd_same, (upd_ne d56).trans upd_same, rfl, fun D7 n7 => ?_⟩
    refine ⟨_, D7, keptV kinNames [b1, b2, b3, b4, b5, b6, b7, b8, b9, b10], rfl, rfl, .inl (SqL.of (upd_same.trans (by rw [keptV_map]))), ?_, hQ _ fun b o e => ?_⟩
    · have h1 := keptV_sum kinNames [b1, b2, b3, b4, b5, b6, b7, b8, b9, b10]
      have h2 : (kinNames.map (·.length)).sum ≤ 100 := by decide +kernel
      have h3 : (Str.ofString "").length = 0 := by decide +kernel
      rw [h3]
      omega
    · exact upd_keep (upd_keep (upd_keep (upd_keep (upd_keep (upd_keep (upd_keep e n1) n2) n3) n4) n5) n6) n7
theorem ps_if_that {X : Cx} {Pr : Prop} {st : List Stmt} {t : TS} (h : Pr → PSs X st t) : PSs X st (fun D σ H => Pr ∧ t D σ H) := ⟨fun pins s σ H D I q => (h q.1).run pins s σ H D I q.2⟩
theorem takes_len {X : Cx} {W : WX} (t : L2N.Takes X W) : L2N.Takes X (fun cls d σ H => σ.length = X.N.length → W cls d σ H) := fun u s' ⟨a, B, sI, pins, σ, H, cls, d, e, I, nb, up, sky, na, os, ag, w⟩ => t u s' ⟨a, B, sI, pins, σ, H, cls, d, e, I, nb, up, sky, na, os, ag, w I.len⟩
/-- what _law_try needs of Barred -/
structure TryB (K : PySem.W.Frag) (mg : Str → Option Value) (C : Addr) (b1 b2 b3 b4 b5 b6 b7 b8 b9 b10 : Bool) : Prop where
  kin : KinT K mg C b1 b2 b3 b4 b5 b6 b7 b8 b9 b10
  bar : mg "Barred" = some (.ref C) ∧ PySem.W.exmOne K (.ref C) (.ref C) = some true
  row : ∃ CR : Addr, mg "RowError" = some (.ref CR)
  xf : XfC K C
  no : PySem.W.findIn K (.ref C) "four" = some none
theorem isi_d {D a : Addr} {d : Option Addr} : IsiOk K D a (fun H => ∃ (dd : Addr) (fs : List (Str × V)), d = some dd ∧ H dd = some (.xd fs)) (rIsEd K D a d) :=
  ⟨fun H H' e ⟨dd, fs, h1, h2⟩ => ⟨dd, fs, h1, e _ _ h2⟩, fun c cv b H Q g h1 h2 q => ⟨c, cv, b, rfl, g, h1, h2, q⟩⟩
theorem gives_tryB {C g fk : Addr} {fdk : FuncData} {b1 b2 b3 b4 b5 b6 b7 b8 b9 b10 : Bool} (T : TryB K mg C b1 b2 b3 b4 b5 b6 b7 b8 b9 b10) (F_kin : Fun K "_law_kin" "_law_kin" s__law_kin fk fdk) (g_kin : mg "_law_kin" = some (.ref fk)) (b_kin : Binds K fdk ["e"] []) {k : Nat} {q : Str} {r : Str}
    (hr : r = Txt.join "" (keptV kinNames [b1, b2, b3, b4, b5, b6, b7, b8, b9, b10])) :
    ∀ (X : Cx), X.prog = P → X.w = w → X.K = K → X.mg = mg → X.base = base → ∀ cdv : Value, GivesN X N__law_try "_law_try" (defScope s__law_try) g cdv (defBody s__law_try) "door" q k (TTb C r) := by
  intro X hP hw hK hm hB cdv
  subst hP hw hK hm hB
  intro f c' s H Q tl room door hc tr
  obtain ⟨gB, eB⟩ := T.bar
  obtain ⟨CR, gR⟩ := T.row
  obtain ⟨tk, hkin⟩ := Classical.axiomOfChoice (fun p : Addr × Option Addr => kin_gen (P := X.prog) (w := X.w) (base := X.base) (a := p.1) T.kin (isi_d (d := p.2)))
  let E : XK := fun cls d H' => cls = .ref C ∧ ∃ dd v, d = some dd ∧ H' dd = some (.xd [(("four" : Str), v)]) ∧ ∀ H'' p, (∀ b o, H' b = some o → H'' b = some o) → H' p = none → H'' p = some (.lst [.str r, v]) → Q (.ref p) H''
  let td : TE := fun σZ HZ Q => σZ[0]? = some (some (.ref f)) ∧ HZ c' = some (LamX.CodeO c' q) ∧ tl E HZ Q
  let tb : WX → TS := fun W D σ H => (∀ cls d σ' H', E cls d H' → σ'.length = 3 → W cls d σ' H') ∧ tAsg (tTup (tCons (tC (.str "told")) (tCons td tNil))) (gName 1) D σ H
  let tcall : Addr → Option Addr → TE := fun a d σ H Q => tCons (tVar 2) tNil σ H fun vs H1 => vs.length = ["e"].length ∧ tk (a, d) { nx := fun _ H' => Q .non H', rt := Q } (L2.start N__law_kin vs) H1
  let t1 : Addr → Value → Option Addr → TS := fun a cls d D σ H => cls = .ref C ∧ tAsg (tLst (tCons (tcall a d) (tCons (tXf a cls d C "four" (tVar 2)) tNil))) (gName 1) D σ H
  let t2 : Addr → Value → Option Addr → TS := fun _ _ _ _ _ _ => False
  refine ⟨tSeq (tAsg (tC .non) (gName 1)) (tSeq (fun D σ H => tb (wAs X.K (.ref C) 2 t1 (wAs X.K (.ref CR) 2 t2 (fun _ _ _ _ => False) D) D) D σ H) (tRet (tVar 1))), ?_, ?_⟩
  · apply pss_cons
    · exact ps_set (i := 1) sc__law_try.nd rfl (.inl rfl) pe_non
    apply pss_cons
    · refine ps_try_by (tb := tb) (w := fun D => wAs X.K (.ref C) 2 t1 (wAs X.K (.ref CR) 2 t2 (fun _ _ _ _ => False) D) D) rfl rfl (fun W pn xe tk _ => ?_) (fun D => ?_)
      · apply ps_if_that
        intro hW
        exact pss_one (ps_set (i := 1) sc__law_try.nd rfl (.inl rfl) (pe_tup (pa_cons pe_str (pa_cons (door _ pn xe E _ _ (takes_len tk) (fun cls d σ' H' e hl => hW cls d σ' H' e hl)) pa_nil))))
      · refine serves_as rfl rfl sc__law_try.nd (i := 2) rfl rfl ⟨by rfl, by decide, .inl gB⟩ (fun a oe cls d pn hz hv => ?_) ?_
        · apply ps_if_that
          intro hcls
          subst hcls
          refine pss_one (ps_set (i := 1) sc__law_try.nd rfl (.inl rfl) (pe_lst (pa_cons ?_ (pa_cons (pe_xf T.xf T.no hz.zc hv (pv 2)) pa_nil))))
          refine pe_callHp (p := (a, oe)) (k := 0) (t := tk (a, d)) (ta := tCons (tVar 2) tNil) (N := N__law_kin) (ps := ["e"]) (f := fk) (fd := fdk) (st := s__law_kin) ?_ ?_ ?_ ?_ ?_ ?_ ?_ ?_ ?_ ?_
          · exact F_kin
          · exact sc__law_kin
          · exact List.mem_cons_self
          · obtain ⟨vs, hvs⟩ := hv
            exact ⟨rfl, vs, hvs, hz.2.2 vs hvs⟩
          · have r0 := room.mono (Nat.succ_le_succ (Nat.zero_le k))
            exact ⟨r0.dp, r0.un⟩
          · rfl
          · exact g_kin
          · exact b_kin
          · intro cdv2 s2 H2 hr2
            obtain ⟨vs, hvs⟩ := hv
            refine (hkin (a, d)).1 fk oe (fun Y hY hp => ?_) cdv2 _ _ s2 H2 ⟨rfl, vs, hvs, hz.2.2 vs hvs⟩
            have ec := T.kin.ec
            rw [← hY] at ec
            have z := call_isPd ec hp hz.1 ⟨vs, hvs⟩
            rw [hY, hz.2.1] at z
            exact z
          · exact pa_cons (pv 2) pa_nil
        · refine serves_as (ts := t2) rfl rfl sc__law_try.nd (i := 2) rfl rfl ⟨by rfl, by decide, .inl gR⟩ (fun a oe cls d pn _ _ => ⟨fun _ _ _ _ _ _ h => h.elim⟩) (serves_nil (Wout := fun _ _ _ _ => False) rfl rfl ?_)
          rintro u s' ⟨a, B, sI, pins, σ, H, cls, d, e, I, nb, up, sky, na, os, ag, w⟩
          exact w.elim
    exact pss_one (ps_ret (pv 1))
  · refine ⟨fun cls d σ' H' e hl => ?_, ?_⟩
    · obtain ⟨rfl, dd, v, rfl, hdd, hq⟩ := e
      refine ⟨true, eB, fun _ a na => ⟨rfl, ?_⟩, fun z => (nomatch z)⟩
      refine ⟨.ref a, List.getElem?_set_self (by rw [hl]; decide), rfl, ?_⟩
      let Q' : VK := fun x H1 => tCons (tXf a (.ref C) (some dd) C "four" (tVar 2)) tNil (σ'.set 2 (some (.ref a))) H1 fun xs H2 => (x :: xs).length ≤ sizeLine ∧ ∀ p, H2 p = none →
        tRet (tVar 1) { nx := fun _ H' => Q .non H', rt := Q } (((σ'.set 2 (some (.ref a))).set 1 (some (.ref p))).set 2 none) (upd H2 p (.lst (x :: xs)))
      refine (hkin (a, some dd)).2 H' Q' ⟨dd, _, rfl, hdd⟩ fun H'' k => ?_
      refine ⟨.ref a, List.getElem?_set_self (by rw [hl]; decide), rfl, rfl, dd, _, v, rfl, k _ _ hdd, by simp [List.lookup], (show (2 : Nat) ≤ sizeLine by decide), fun p hp => ⟨.ref p, ?_, hq _ p (fun b o e => upd_keep (k b o e) hp) ?_ ?_⟩⟩
      · rw [List.getElem?_set_ne (by decide), List.getElem?_set_self (by rw [List.length_set, hl]; decide)]
      · cases hx : H' p with
        | none => rfl
        | some o => rw [k p o hx] at hp; cases hp
      · rw [upd_same, hr]
    · exact ⟨rfl, hc, tr _⟩
end
structure Tx (mg : Str → Option Value) : Prop where
  b_all : mg "all" = none
  b_any : mg "any" = none
  b_bool : mg "bool" = none
  b_enumerate : mg "enumerate" = none
  b_int : mg "int" = none
  b_isinstance : mg "isinstance" = none
  b_len : mg "len" = none
  b_list : mg "list" = none
  b_max : mg "max" = none
  b_min : mg "min" = none
  b_range : mg "range" = none
  b_set : mg "set" = none
  b_sorted : mg "sorted" = none
  b_tuple : mg "tuple" = none
  b_zip : mg "zip" = none
  g_MOST_CARDS : ∃ t, mg "MOST_CARDS" = some (.int 40 t)
  g_MOST_NUMBER : ∃ t, mg "MOST_NUMBER" = some (.int 1000000000 t)
  g_MOST_WORTH : ∃ t, mg "MOST_WORTH" = some (.int 1000000000 t)
  g_MOST_HIDDEN : ∃ t, mg "MOST_HIDDEN" = some (.int 7 t)
section
variable {P : Program} {w : World} {K : PySem.W.Frag} {mg : Str → Option Value} {base : Heap}
theorem sc_is_from : FnScope N_is_from ["thing", "low", "high"] (defScope s_is_from) := ⟨rfl, rfl, rfl, by decide +kernel, rfl, by decide +kernel, by decide +kernel⟩
theorem d_is_from (T : Tx mg) {f : Addr} (cdv : Value) (Ar : Around) (outer : List Env) (s : Shared) (H : Hp) (E : XK) (hr : Room 0 (Ar.deeper (envOfC "is_from" (defScope s_is_from) s.heap.objs.size f cdv))) :
    ASs (cxOf CX0 P w K mg base N_is_from "is_from" (defScope s_is_from) f cdv Ar outer s H E).nox (defBody s_is_from) (t_is_from) := by
  exact (as_one (as_ret (ae_and (ae_isi (T := "int") (by simp) (by rfl) T.b_isinstance (by rfl) T.b_int (by decide +kernel) (ae_var (pv 0))) (ae_and (ae_not (ae_isi (T := "bool") (by simp) (by rfl) T.b_isinstance (by rfl) T.b_bool (by decide +kernel) (ae_var (pv 0)))) (ae_one (ae_ch op_le op_le pu_var (ae_var (pv 1)) (ae_var (pv 0)) (ae_var (pv 2))))))))
theorem sc_is_rising : FnScope N_is_rising ["things"] (defScope s_is_rising) := ⟨rfl, rfl, rfl, by decide +kernel, rfl, by decide +kernel, by decide +kernel⟩
theorem d_is_rising (T : Tx mg) {f : Addr} (cdv : Value) (Ar : Around) (outer : List Env) (s : Shared) (H : Hp) (E : XK) (hr : Room 0 (Ar.deeper (envOfC "is_rising" (defScope s_is_rising) s.heap.objs.size f cdv))) :
    ASs (cxOf CX0 P w K mg base N_is_rising "is_rising" (defScope s_is_rising) f cdv Ar outer s H E).nox (defBody s_is_rising) (t_is_rising) := by
  exact (as_one (as_ret (ae_all rfl (by rfl) T.b_all (ae_lc (own := [("one", 1), ("other", 2)]) (g := (.many [1, 2])) (by decide) rfl sc_is_rising.nd (ai_zip (by rfl) T.b_zip (ae_var (pv 0)) (ae_sl (ae_var (pv 0)) (apo_some ae_int) apo_none)) (blkOk_by (own := [("one", 1), ("other", 2)]) (N := N_is_rising) (sc := defScope s_is_rising) (by decide +kernel)) (fun _ _ _ _ _ => (pg_tup rfl (pgs_cons (pg_name (i := 1) sc_is_rising.nd rfl (by first | exact .inl rfl | exact .inr rfl)) (pgs_cons (pg_name (i := 2) sc_is_rising.nd rfl (by first | exact .inl rfl | exact .inr rfl)) pgs_nil)))) (fun _ _ _ _ _ => apts_nil) (fun _ _ _ _ _ => (ae_lt (ae_var (pv 1)) (ae_var (pv 2))))))))
theorem sc_is_row : FnScope N_is_row ["thing"] (defScope s_is_row) := ⟨rfl, rfl, rfl, by decide +kernel, rfl, by decide +kernel, by decide +kernel⟩
theorem d_is_row (T : Tx mg) (h_is_from : Kn P w K mg base 1 "is_from" ["thing", "low", "high"] A_is_from) (h_is_rising : Kn P w K mg base 1 "is_rising" ["things"] A_is_rising) {f : Addr} (cdv : Value) (Ar : Around) (outer : List Env) (s : Shared) (H : Hp) (E : XK) (hr : Room 1 (Ar.deeper (envOfC "is_row" (defScope s_is_row) s.heap.objs.size f cdv))) :
    ASs (cxOf CX0 P w K mg base N_is_row "is_row" (defScope s_is_row) f cdv Ar outer s H E).nox (defBody s_is_row) (t_is_row) := by
  exact (as_cons (as_if (PW.pt (aw_or (at_not (at_val (ae_isi (T := "tuple") (by simp) (by rfl) T.b_isinstance (by rfl) T.b_tuple (by decide +kernel) (ae_var (pv 0))))) (aw_or1 (at_not (at_ch op_le op_le pu_c ae_int (ae_len (by rfl) T.b_len (ae_var (pv 0))) (ae_gint (by rfl) T.g_MOST_CARDS)))))) (as_one (as_ret ae_bl)) as_nil)
      (as_one (as_ret (ae_and (ae_all rfl (by rfl) T.b_all (ae_lc (own := [("card", 1)]) (g := (.one 1)) (by decide) rfl sc_is_row.nd (ai_seq (ae_var (pv 0))) (blkOk_by (own := [("card", 1)]) (N := N_is_row) (sc := defScope s_is_row) (by decide +kernel)) (fun _ _ _ _ _ => (pg_name (i := 1) sc_is_row.nd rfl (by first | exact .inl rfl | exact .inr rfl))) (fun _ _ _ _ _ => apts_nil) (fun _ _ _ _ _ => (ae_callK h_is_from (hr.mono (by decide)) (by rfl) (aa_cons (ae_var (pv 1)) (aa_cons ae_int (aa_cons (ae_gint (by rfl) T.g_MOST_NUMBER) aa_nil))))))) (ae_one (ae_callK h_is_rising (hr.mono (by decide)) (by rfl) (aa_cons (ae_sorted (by rfl) T.b_sorted (ae_var (pv 0))) aa_nil)))))))
theorem sc_need_row : FnScope N_need_row ["row"] (defScope s_need_row) := ⟨rfl, rfl, rfl, by decide +kernel, rfl, by decide +kernel, by decide +kernel⟩
theorem d_need_row (T : Tx mg) (h_is_row : Kn P w K mg base 2 "is_row" ["thing"] A_is_row) {f : Addr} (cdv : Value) (Ar : Around) (outer : List Env) (s : Shared) (H : Hp) (E : XK) (hr : Room 2 (Ar.deeper (envOfC "need_row" (defScope s_need_row) s.heap.objs.size f cdv))) :
    ASs (cxOf CX0 P w K mg base N_need_row "need_row" (defScope s_need_row) f cdv Ar outer s H E).nox (defBody s_need_row) (t_need_row) := by
  exact (as_one (as_if (at_not (at_val (ae_callK h_is_row (hr.mono (by decide)) (by rfl) (aa_cons (ae_var (pv 0)) aa_nil)))) (as_one as_never) as_nil))
theorem sc_next_last : FnScope N_next_last ["last", "card", "side"] (defScope s_next_last) := ⟨rfl, rfl, rfl, by decide +kernel, rfl, by decide +kernel, by decide +kernel⟩
theorem d_next_last (T : Tx mg) {f : Addr} (cdv : Value) (Ar : Around) (outer : List Env) (s : Shared) (H : Hp) (E : XK) (hr : Room 0 (Ar.deeper (envOfC "next_last" (defScope s_next_last) s.heap.objs.size f cdv))) :
    ASs (cxOf CX0 P w K mg base N_next_last "next_last" (defScope s_next_last) f cdv Ar outer s H E).nox (defBody s_next_last) (t_next_last) := by
  exact (as_cons (as_asg (g := (.many [3, 4])) (ae_var (pv 0)) (pg_tup rfl (pgs_cons (pg_name (i := 3) sc_next_last.nd rfl (by first | exact .inl rfl | exact .inr rfl)) (pgs_cons (pg_name (i := 4) sc_next_last.nd rfl (by first | exact .inl rfl | exact .inr rfl)) pgs_nil))))
      (as_cons (as_if (at_eq hr.units (ae_var (pv 2)) ae_str) (as_one (as_ret (ae_ifExp (at_gt (ae_var (pv 1)) (ae_var (pv 3))) (ae_tup (aa_cons (ae_var (pv 1)) (aa_cons (ae_var (pv 4)) aa_nil))) ae_non))) as_nil)
      (as_one (as_ret (ae_ifExp (at_lt (ae_var (pv 1)) (ae_var (pv 4))) (ae_tup (aa_cons (ae_var (pv 3)) (aa_cons (ae_var (pv 1)) aa_nil))) ae_non)))))
theorem sc_begun : FnScope N_begun [] (defScope s_begun) := ⟨rfl, rfl, rfl, by decide +kernel, rfl, by decide +kernel, by decide +kernel⟩
theorem d_begun (T : Tx mg) {f : Addr} (cdv : Value) (Ar : Around) (outer : List Env) (s : Shared) (H : Hp) (E : XK) (hr : Room 0 (Ar.deeper (envOfC "begun" (defScope s_begun) s.heap.objs.size f cdv))) :
    ASs (cxOf CX0 P w K mg base N_begun "begun" (defScope s_begun) f cdv Ar outer s H E).nox (defBody s_begun) (t_begun) := by
  exact (as_one (as_ret (ae_tup (aa_cons (ae_neg ae_int) (aa_cons (ae_add (ae_gint (by rfl) T.g_MOST_NUMBER) ae_int) aa_nil)))))
theorem sc_good_from : FnScope N_good_from ["row", "at", "last", "known"] (defScope s_good_from) := ⟨rfl, rfl, rfl, by decide +kernel, rfl, by decide +kernel, by decide +kernel⟩
theorem d_good_from (T : Tx mg) (h_next_last : Kn P w K mg base 1 "next_last" ["last", "card", "side"] A_next_last) {Arec : ASp} {kk : Nat} (hrec : Kn P w K mg base kk "good_from" ["row", "at", "last", "known"] Arec) (hkk : 1 ≤ kk) {f : Addr} (cdv : Value) (Ar : Around) (outer : List Env) (s : Shared) (H : Hp) (E : XK) (hr : Room kk (Ar.deeper (envOfC "good_from" (defScope s_good_from) s.heap.objs.size f cdv))) :
    ASs (cxOf CX0 P w K mg base N_good_from "good_from" (defScope s_good_from) f cdv Ar outer s H E).nox (defBody s_good_from) (t_good_from Arec) := by
  have hrr := hr
  exact (as_cons (as_if (at_eq hr.units (ae_var (pv 1)) (ae_len (by rfl) T.b_len (ae_var (pv 0)))) (as_one (as_ret ae_bl)) as_nil)
      (as_cons (as_set (i := 4) sc_good_from.nd rfl (by first | exact .inl rfl | exact .inr rfl) (ae_tup (aa_cons (ae_var (pv 1)) (aa_cons (ae_var (pv 2)) aa_nil))))
      (as_cons (as_if (at_ninD hr.units (ae_var (pv 4)) (ae_var (pv 3)) (by rfl)) (as_cons (as_setLc (i := 5) (own := [("side", 6)]) (g := (.one 6)) (by decide) rfl sc_good_from.nd rfl rfl (sw_true rfl rfl rfl (by decide +kernel)) (ai_seq (ae_tup (aa_cons ae_str (aa_cons ae_str aa_nil)))) (blkOk_by (own := [("side", 6)]) (N := N_good_from) (sc := defScope s_good_from) (by decide +kernel)) (fun _ _ _ _ _ => (pg_name (i := 6) sc_good_from.nd rfl (by first | exact .inl rfl | exact .inr rfl))) (fun _ _ _ _ _ => apts_nil) (fun _ _ _ _ _ => (ae_callK h_next_last (hr.mono (Nat.le_trans (by decide) hkk)) (by rfl) (aa_cons (ae_var (pv 2)) (aa_cons (ae_item (ae_var (pv 0)) (ae_var (pv 1)) (fun _ _ => rfl)) (aa_cons (ae_var (pv 6)) aa_nil))))))
      (as_one (as_setD hr.units (ae_any rfl (by rfl) T.b_any (ae_lc (own := [("there", 7)]) (g := (.one 7)) (by decide) rfl sc_good_from.nd (ai_seq (ae_var (pv 5))) (blkOk_by (own := [("there", 7)]) (N := N_good_from) (sc := defScope s_good_from) (by decide +kernel)) (fun _ _ _ _ _ => (pg_name (i := 7) sc_good_from.nd rfl (by first | exact .inl rfl | exact .inr rfl))) (fun _ _ _ _ _ => apts_nil) (fun _ _ _ _ _ => (ae_and (ae_notN (ae_var (pv 7))) (ae_one (ae_callK hrec hrr (by rfl) (aa_cons (ae_var (pv 0)) (aa_cons (ae_add (ae_var (pv 1)) ae_int) (aa_cons (ae_var (pv 7)) (aa_cons (ae_var (pv 3)) aa_nil)))))))))) (ae_var (pv 3)) (ae_var (pv 4))))) as_nil)
      (as_one (as_ret (ae_dget hr.units (ae_var (pv 3)) (ae_var (pv 4)) (fun _ _ => rfl)))))))
theorem sc_all_partings : FnScope N_all_partings ["row"] (defScope s_all_partings) := ⟨rfl, rfl, rfl, by decide +kernel, rfl, by decide +kernel, by decide +kernel⟩
theorem d_all_partings (T : Tx mg) (h_begun : Kn P w K mg base 1 "begun" [] A_begun) (h_good_from : Kn P w K mg base 42 "good_from" ["row", "at", "last", "known"] A_good_from) (h_next_last : Kn P w K mg base 1 "next_last" ["last", "card", "side"] A_next_last) {f : Addr} (cdv : Value) (Ar : Around) (outer : List Env) (s : Shared) (H : Hp) (E : XK) (hr : Room 42 (Ar.deeper (envOfC "all_partings" (defScope s_all_partings) s.heap.objs.size f cdv))) :
    ASs (cxOf CX0 P w K mg base N_all_partings "all_partings" (defScope s_all_partings) f cdv Ar outer s H E).nox (defBody s_all_partings) (t_all_partings) := by
  exact (as_cons (as_set (i := 1) sc_all_partings.nd rfl (by first | exact .inl rfl | exact .inr rfl) ae_dnew')
      (as_cons (as_set (i := 2) sc_all_partings.nd rfl (by first | exact .inl rfl | exact .inr rfl) (ae_ifExp (at_val (ae_callK h_good_from (hr.mono (by decide)) (by rfl) (aa_cons (ae_var (pv 0)) (aa_cons ae_int (aa_cons (ae_callK0 h_begun (hr.mono (by decide)) (by rfl)) (aa_cons (ae_var (pv 1)) aa_nil)))))) (ae_lst (aa_cons (ae_tup (aa_cons (ae_tup aa_nil) (aa_cons (ae_callK0 h_begun (hr.mono (by decide)) (by rfl)) aa_nil))) aa_nil)) (ae_lst aa_nil)))
      (as_cons (as_for (g := (.many [3, 4])) PassesOwn.never rfl (ai_enum (by rfl) T.b_enumerate (ae_var (pv 0))) (pg_tup rfl (pgs_cons (pg_name (i := 3) sc_all_partings.nd rfl (by first | exact .inl rfl | exact .inr rfl)) (pgs_cons (pg_name (i := 4) sc_all_partings.nd rfl (by first | exact .inl rfl | exact .inr rfl)) pgs_nil))) (as_cons (as_set (i := 5) sc_all_partings.nd rfl (by first | exact .inl rfl | exact .inr rfl) (ae_lstM aa_nil))
      (as_cons (as_for (g := (.many [6, 7])) PassesOwn.never rfl (ai_seq (ae_var (pv 2))) (pg_tup rfl (pgs_cons (pg_name (i := 6) sc_all_partings.nd rfl (by first | exact .inl rfl | exact .inr rfl)) (pgs_cons (pg_name (i := 7) sc_all_partings.nd rfl (by first | exact .inl rfl | exact .inr rfl)) pgs_nil))) (as_one (as_for (g := (.one 8)) PassesOwn.never rfl (ai_seq (ae_tup (aa_cons ae_str (aa_cons ae_str aa_nil)))) (pg_name (i := 8) sc_all_partings.nd rfl (by first | exact .inl rfl | exact .inr rfl)) (as_cons (as_set (i := 9) sc_all_partings.nd rfl (by first | exact .inl rfl | exact .inr rfl) (ae_callK h_next_last (hr.mono (by decide)) (by rfl) (aa_cons (ae_var (pv 7)) (aa_cons (ae_var (pv 4)) (aa_cons (ae_var (pv 8)) aa_nil)))))
      (as_one (as_if (PW.pt (aw_and (at_notN (ae_var (pv 9))) (aw_and1 (at_val (ae_callK h_good_from (hr.mono (by decide)) (by rfl) (aa_cons (ae_var (pv 0)) (aa_cons (ae_add (ae_var (pv 3)) ae_int) (aa_cons (ae_var (pv 9)) (aa_cons (ae_var (pv 1)) aa_nil))))))))) (as_one (as_expr (ae_append (ae_var (pv 5)) (aa_cons (ae_tup (aa_cons (ae_add (ae_var (pv 6)) (ae_tup (aa_cons (ae_var (pv 8)) aa_nil))) (aa_cons (ae_var (pv 9)) aa_nil))) aa_nil)))) as_nil))))))
      (as_one (as_set (i := 2) sc_all_partings.nd rfl (by first | exact .inl rfl | exact .inr rfl) (ae_frz (ae_var (pv 5))))))))
      (as_one (as_ret (ae_lc (own := [("sides_so", 6), ("last", 7)]) (g := (.many [6, 7])) (by decide) rfl sc_all_partings.nd (ai_seq (ae_var (pv 2))) (blkOk_by (own := [("sides_so", 6), ("last", 7)]) (N := N_all_partings) (sc := defScope s_all_partings) (by decide +kernel)) (fun _ _ _ _ _ => (pg_tup rfl (pgs_cons (pg_name (i := 6) sc_all_partings.nd rfl (by first | exact .inl rfl | exact .inr rfl)) (pgs_cons (pg_name (i := 7) sc_all_partings.nd rfl (by first | exact .inl rfl | exact .inr rfl)) pgs_nil)))) (fun _ _ _ _ _ => apts_nil) (fun _ _ _ _ _ => (ae_var (pv 6)))))))))
theorem sc_is_woven : FnScope N_is_woven ["row"] (defScope s_is_woven) := ⟨rfl, rfl, rfl, by decide +kernel, rfl, by decide +kernel, by decide +kernel⟩
theorem d_is_woven (T : Tx mg) (h_begun : Kn P w K mg base 1 "begun" [] A_begun) (h_good_from : Kn P w K mg base 42 "good_from" ["row", "at", "last", "known"] A_good_from) {f : Addr} (cdv : Value) (Ar : Around) (outer : List Env) (s : Shared) (H : Hp) (E : XK) (hr : Room 42 (Ar.deeper (envOfC "is_woven" (defScope s_is_woven) s.heap.objs.size f cdv))) :
    ASs (cxOf CX0 P w K mg base N_is_woven "is_woven" (defScope s_is_woven) f cdv Ar outer s H E).nox (defBody s_is_woven) (t_is_woven) := by
  exact (as_one (as_ret (ae_callK h_good_from (hr.mono (by decide)) (by rfl) (aa_cons (ae_var (pv 0)) (aa_cons ae_int (aa_cons (ae_callK0 h_begun (hr.mono (by decide)) (by rfl)) (aa_cons ae_dnew' aa_nil)))))))
theorem sc_parting : FnScope N_parting ["row"] (defScope s_parting) := ⟨rfl, rfl, rfl, by decide +kernel, rfl, by decide +kernel, by decide +kernel⟩
theorem d_parting (T : Tx mg) (h_need_row : Kn P w K mg base 3 "need_row" ["row"] A_need_row) (h_all_partings : Kn P w K mg base 43 "all_partings" ["row"] A_all_partings) {f : Addr} (cdv : Value) (Ar : Around) (outer : List Env) (s : Shared) (H : Hp) (E : XK) (hr : Room 43 (Ar.deeper (envOfC "parting" (defScope s_parting) s.heap.objs.size f cdv))) :
    ASs (cxOf CX0 P w K mg base N_parting "parting" (defScope s_parting) f cdv Ar outer s H E).nox (defBody s_parting) (t_parting) := by
  exact (as_cons (as_expr (ae_callK h_need_row (hr.mono (by decide)) (by rfl) (aa_cons (ae_var (pv 0)) aa_nil)))
      (as_cons (as_set (i := 1) sc_parting.nd rfl (by first | exact .inl rfl | exact .inr rfl) (ae_callK h_all_partings (hr.mono (by decide)) (by rfl) (aa_cons (ae_var (pv 0)) aa_nil)))
      (as_one (as_ret (ae_ifExp (at_ne hr.units (ae_var (pv 1)) (ae_lst aa_nil)) (ae_item (ae_var (pv 1)) ae_int (fun _ _ => rfl)) ae_non)))))
theorem sc_how_many : FnScope N_how_many ["row"] (defScope s_how_many) := ⟨rfl, rfl, rfl, by decide +kernel, rfl, by decide +kernel, by decide +kernel⟩
theorem d_how_many (T : Tx mg) (h_need_row : Kn P w K mg base 3 "need_row" ["row"] A_need_row) (h_all_partings : Kn P w K mg base 43 "all_partings" ["row"] A_all_partings) {f : Addr} (cdv : Value) (Ar : Around) (outer : List Env) (s : Shared) (H : Hp) (E : XK) (hr : Room 43 (Ar.deeper (envOfC "how_many" (defScope s_how_many) s.heap.objs.size f cdv))) :
    ASs (cxOf CX0 P w K mg base N_how_many "how_many" (defScope s_how_many) f cdv Ar outer s H E).nox (defBody s_how_many) (t_how_many) := by
  exact (as_cons (as_expr (ae_callK h_need_row (hr.mono (by decide)) (by rfl) (aa_cons (ae_var (pv 0)) aa_nil)))
      (as_one (as_ret (ae_len (by rfl) T.b_len (ae_callK h_all_partings (hr.mono (by decide)) (by rfl) (aa_cons (ae_var (pv 0)) aa_nil))))))
theorem sc_sides_of : FnScope N_sides_of ["row"] (defScope s_sides_of) := ⟨rfl, rfl, rfl, by decide +kernel, rfl, by decide +kernel, by decide +kernel⟩
theorem d_sides_of (T : Tx mg) (h_all_partings : Kn P w K mg base 43 "all_partings" ["row"] A_all_partings) {f : Addr} (cdv : Value) (Ar : Around) (outer : List Env) (s : Shared) (H : Hp) (E : XK) (hr : Room 43 (Ar.deeper (envOfC "sides_of" (defScope s_sides_of) s.heap.objs.size f cdv))) :
    ASs (cxOf CX0 P w K mg base N_sides_of "sides_of" (defScope s_sides_of) f cdv Ar outer s H E).nox (defBody s_sides_of) (t_sides_of) := by
  exact (as_cons (as_set (i := 1) sc_sides_of.nd rfl (by first | exact .inl rfl | exact .inr rfl) (ae_callK h_all_partings (hr.mono (by decide)) (by rfl) (aa_cons (ae_var (pv 0)) aa_nil)))
      (as_cons (as_if (at_eq hr.units (ae_var (pv 1)) (ae_lst aa_nil)) (as_one (as_ret ae_non)) as_nil)
      (as_cons (as_set (i := 2) sc_sides_of.nd rfl (by first | exact .inl rfl | exact .inr rfl) (ae_lstM aa_nil))
      (as_cons (as_for (g := (.one 3)) PassesOwn.never rfl (ai_range1 (by rfl) T.b_range (ae_len (by rfl) T.b_len (ae_var (pv 0)))) (pg_name (i := 3) sc_sides_of.nd rfl (by first | exact .inl rfl | exact .inr rfl)) (as_cons (as_setLc (i := 4) (own := [("sides_so", 5)]) (g := (.one 5)) (by decide) rfl sc_sides_of.nd rfl rfl (sw_true rfl rfl rfl (by decide +kernel)) (ai_seq (ae_var (pv 1))) (blkOk_by (own := [("sides_so", 5)]) (N := N_sides_of) (sc := defScope s_sides_of) (by decide +kernel)) (fun _ _ _ _ _ => (pg_name (i := 5) sc_sides_of.nd rfl (by first | exact .inl rfl | exact .inr rfl))) (fun _ _ _ _ _ => apts_nil) (fun _ _ _ _ _ => (ae_item (ae_var (pv 5)) (ae_var (pv 3)) (fun _ _ => rfl))))
      (as_one (as_expr (ae_append (ae_var (pv 2)) (aa_cons (ae_ifExp (at_eq hr.units (ae_lenSetS (by rfl) T.b_len (by rfl) T.b_set (ae_var (pv 4))) ae_int) (ae_item (ae_var (pv 4)) ae_int (fun _ _ => rfl)) ae_str) aa_nil))))))
      (as_one (as_ret (ae_tuple (by rfl) T.b_tuple (ae_var (pv 2)))))))))
theorem sc_sides : FnScope N_sides ["row"] (defScope s_sides) := ⟨rfl, rfl, rfl, by decide +kernel, rfl, by decide +kernel, by decide +kernel⟩
theorem d_sides (T : Tx mg) (h_need_row : Kn P w K mg base 3 "need_row" ["row"] A_need_row) (h_sides_of : Kn P w K mg base 44 "sides_of" ["row"] A_sides_of) {f : Addr} (cdv : Value) (Ar : Around) (outer : List Env) (s : Shared) (H : Hp) (E : XK) (hr : Room 44 (Ar.deeper (envOfC "sides" (defScope s_sides) s.heap.objs.size f cdv))) :
    ASs (cxOf CX0 P w K mg base N_sides "sides" (defScope s_sides) f cdv Ar outer s H E).nox (defBody s_sides) (t_sides) := by
  exact (as_cons (as_expr (ae_callK h_need_row (hr.mono (by decide)) (by rfl) (aa_cons (ae_var (pv 0)) aa_nil)))
      (as_one (as_ret (ae_callK h_sides_of (hr.mono (by decide)) (by rfl) (aa_cons (ae_var (pv 0)) aa_nil)))))
theorem sc_barring : FnScope N_barring ["cards"] (defScope s_barring) := ⟨rfl, rfl, rfl, by decide +kernel, rfl, by decide +kernel, by decide +kernel⟩
theorem d_barring (T : Tx mg) {f : Addr} (cdv : Value) (Ar : Around) (outer : List Env) (s : Shared) (H : Hp) (E : XK) (hr : Room 0 (Ar.deeper (envOfC "barring" (defScope s_barring) s.heap.objs.size f cdv))) :
    ASs (cxOf CX0 P w K mg base N_barring "barring" (defScope s_barring) f cdv Ar outer s H E).nox (defBody s_barring) (t_barring) := by
  exact (as_cons (as_asgU (is := [1, 2, 3, 4]) (ae_var (pv 0)) (pg_ei (pg_tup rfl (pgs_cons (pg_name (i := 1) sc_barring.nd rfl (by first | exact .inl rfl | exact .inr rfl)) (pgs_cons (pg_name (i := 2) sc_barring.nd rfl (by first | exact .inl rfl | exact .inr rfl)) (pgs_cons (pg_name (i := 3) sc_barring.nd rfl (by first | exact .inl rfl | exact .inr rfl)) (pgs_cons (pg_name (i := 4) sc_barring.nd rfl (by first | exact .inl rfl | exact .inr rfl)) pgs_nil))))) (pg_lst rfl (pgs_cons (pg_name (i := 1) sc_barring.nd rfl (by first | exact .inl rfl | exact .inr rfl)) (pgs_cons (pg_name (i := 2) sc_barring.nd rfl (by first | exact .inl rfl | exact .inr rfl)) (pgs_cons (pg_name (i := 3) sc_barring.nd rfl (by first | exact .inl rfl | exact .inr rfl)) (pgs_cons (pg_name (i := 4) sc_barring.nd rfl (by first | exact .inl rfl | exact .inr rfl)) pgs_nil)))))))
      (as_one (as_ret (ae_or (ae_ch3 (pv 2) (pv 1) (pv 4) (pv 3)) (ae_one (ae_ch3 (pv 3) (pv 4) (pv 1) (pv 2)))))))
theorem sc_four_with : FnScope N_four_with ["row", "last"] (defScope s_four_with) := ⟨rfl, rfl, rfl, by decide +kernel, rfl, by decide +kernel, by decide +kernel⟩
theorem d_four_with (T : Tx mg) (h_barring : Kn P w K mg base 1 "barring" ["cards"] A_barring) {f : Addr} (cdv : Value) (Ar : Around) (outer : List Env) (s : Shared) (H : Hp) (E : XK) (hr : Room 1 (Ar.deeper (envOfC "four_with" (defScope s_four_with) s.heap.objs.size f cdv))) :
    ASs (cxOf CX0 P w K mg base N_four_with "four_with" (defScope s_four_with) f cdv Ar outer s H E).nox (defBody s_four_with) (t_four_with) := by
  exact (as_cons (as_for (g := (.one 2)) PassesOwn.never rfl (ai_range1 (by rfl) T.b_range (ae_var (pv 1))) (pg_name (i := 2) sc_four_with.nd rfl (by first | exact .inl rfl | exact .inr rfl)) (as_one (as_for (g := (.one 3)) PassesOwn.never rfl (ai_range2 (by rfl) T.b_range (ae_add (ae_var (pv 2)) ae_int) (ae_var (pv 1))) (pg_name (i := 3) sc_four_with.nd rfl (by first | exact .inl rfl | exact .inr rfl)) (as_one (as_for (g := (.one 4)) PassesOwn.never rfl (ai_range2 (by rfl) T.b_range (ae_add (ae_var (pv 3)) ae_int) (ae_var (pv 1))) (pg_name (i := 4) sc_four_with.nd rfl (by first | exact .inl rfl | exact .inr rfl)) (as_one (as_if (at_val (ae_callK h_barring (hr.mono (by decide)) (by rfl) (aa_cons (ae_tup (aa_cons (ae_item (ae_var (pv 0)) (ae_var (pv 2)) (fun _ _ => rfl)) (aa_cons (ae_item (ae_var (pv 0)) (ae_var (pv 3)) (fun _ _ => rfl)) (aa_cons (ae_item (ae_var (pv 0)) (ae_var (pv 4)) (fun _ _ => rfl)) (aa_cons (ae_item (ae_var (pv 0)) (ae_var (pv 1)) (fun _ _ => rfl)) aa_nil))))) aa_nil))) (as_one (as_ret (ae_tup (aa_cons (ae_var (pv 2)) (aa_cons (ae_var (pv 3)) (aa_cons (ae_var (pv 4)) (aa_cons (ae_var (pv 1)) aa_nil))))))) as_nil)))))))
      (as_one (as_ret ae_non)))
theorem sc_four : FnScope N_four ["row"] (defScope s_four) := ⟨rfl, rfl, rfl, by decide +kernel, rfl, by decide +kernel, by decide +kernel⟩
theorem d_four (T : Tx mg) (h_need_row : Kn P w K mg base 3 "need_row" ["row"] A_need_row) (h_four_with : Kn P w K mg base 2 "four_with" ["row", "last"] A_four_with) {f : Addr} (cdv : Value) (Ar : Around) (outer : List Env) (s : Shared) (H : Hp) (E : XK) (hr : Room 3 (Ar.deeper (envOfC "four" (defScope s_four) s.heap.objs.size f cdv))) :
    ASs (cxOf CX0 P w K mg base N_four "four" (defScope s_four) f cdv Ar outer s H E).nox (defBody s_four) (t_four) := by
  exact (as_cons (as_expr (ae_callK h_need_row (hr.mono (by decide)) (by rfl) (aa_cons (ae_var (pv 0)) aa_nil)))
      (as_cons (as_setLc (i := 1) (own := [("last", 2)]) (g := (.one 2)) (by decide) rfl sc_four.nd rfl rfl (sw_true rfl rfl rfl (by decide +kernel)) (ai_range2 (by rfl) T.b_range ae_int (ae_len (by rfl) T.b_len (ae_var (pv 0)))) (blkOk_by (own := [("last", 2)]) (N := N_four) (sc := defScope s_four) (by decide +kernel)) (fun _ _ _ _ _ => (pg_name (i := 2) sc_four.nd rfl (by first | exact .inl rfl | exact .inr rfl))) (fun _ _ _ _ _ => apts_nil) (fun _ _ _ _ _ => (ae_callK h_four_with (hr.mono (by decide)) (by rfl) (aa_cons (ae_var (pv 0)) (aa_cons (ae_var (pv 2)) aa_nil)))))
      (as_cons (as_setLc (i := 3) (own := [("places", 4)]) (g := (.one 4)) (by decide) rfl sc_four.nd rfl rfl (sw_true rfl rfl rfl (by decide +kernel)) (ai_seq (ae_var (pv 1))) (blkOk_by (own := [("places", 4)]) (N := N_four) (sc := defScope s_four) (by decide +kernel)) (fun _ _ _ _ _ => (pg_name (i := 4) sc_four.nd rfl (by first | exact .inl rfl | exact .inr rfl))) (fun _ _ _ _ _ => (apts_one (at_notN (ae_var (pv 4))))) (fun _ _ _ _ _ => (ae_var (pv 4))))
      (as_one (as_ret (ae_ifExp (at_ne hr.units (ae_var (pv 3)) (ae_lst aa_nil)) (ae_minT hr rfl (by rfl) T.b_min (ae_var (pv 3))) ae_non))))))
theorem sc_bars : FnScope N_bars ["row", "thing"] (defScope s_bars) := ⟨rfl, rfl, rfl, by decide +kernel, rfl, by decide +kernel, by decide +kernel⟩
theorem d_bars (T : Tx mg) (h_need_row : Kn P w K mg base 3 "need_row" ["row"] A_need_row) (h_is_from : Kn P w K mg base 1 "is_from" ["thing", "low", "high"] A_is_from) (h_is_rising : Kn P w K mg base 1 "is_rising" ["things"] A_is_rising) (h_barring : Kn P w K mg base 1 "barring" ["cards"] A_barring) {f : Addr} (cdv : Value) (Ar : Around) (outer : List Env) (s : Shared) (H : Hp) (E : XK) (hr : Room 3 (Ar.deeper (envOfC "bars" (defScope s_bars) s.heap.objs.size f cdv))) :
    ASs (cxOf CX0 P w K mg base N_bars "bars" (defScope s_bars) f cdv Ar outer s H E).nox (defBody s_bars) (t_bars) := by
  exact (as_cons (as_expr (ae_callK h_need_row (hr.mono (by decide)) (by rfl) (aa_cons (ae_var (pv 0)) aa_nil)))
      (as_cons (as_if (PW.pt (aw_or (at_not (at_val (ae_isi (T := "tuple") (by simp) (by rfl) T.b_isinstance (by rfl) T.b_tuple (by decide +kernel) (ae_var (pv 1))))) (aw_or1 (at_ne hr.units (ae_len (by rfl) T.b_len (ae_var (pv 1))) ae_int)))) (as_one (as_ret ae_bl)) as_nil)
      (as_cons (as_if (PW.pt (aw_or (at_not (at_val (ae_all rfl (by rfl) T.b_all (ae_lc (own := [("place", 2)]) (g := (.one 2)) (by decide) rfl sc_bars.nd (ai_seq (ae_var (pv 1))) (blkOk_by (own := [("place", 2)]) (N := N_bars) (sc := defScope s_bars) (by decide +kernel)) (fun _ _ _ _ _ => (pg_name (i := 2) sc_bars.nd rfl (by first | exact .inl rfl | exact .inr rfl))) (fun _ _ _ _ _ => apts_nil) (fun _ _ _ _ _ => (ae_callK h_is_from (hr.mono (by decide)) (by rfl) (aa_cons (ae_var (pv 2)) (aa_cons ae_int (aa_cons (ae_sub (ae_len (by rfl) T.b_len (ae_var (pv 0))) ae_int) aa_nil))))))))) (aw_or1 (at_not (at_val (ae_callK h_is_rising (hr.mono (by decide)) (by rfl) (aa_cons (ae_var (pv 1)) aa_nil))))))) (as_one (as_ret ae_bl)) as_nil)
      (as_one (as_ret (ae_callK h_barring (hr.mono (by decide)) (by rfl) (aa_cons (ae_lc (own := [("place", 2)]) (g := (.one 2)) (by decide) rfl sc_bars.nd (ai_seq (ae_var (pv 1))) (blkOk_by (own := [("place", 2)]) (N := N_bars) (sc := defScope s_bars) (by decide +kernel)) (fun _ _ _ _ _ => (pg_name (i := 2) sc_bars.nd rfl (by first | exact .inl rfl | exact .inr rfl))) (fun _ _ _ _ _ => apts_nil) (fun _ _ _ _ _ => (ae_item (ae_var (pv 0)) (ae_var (pv 2)) (fun _ _ => rfl)))) aa_nil)))))))
theorem sc_most_from : FnScope N_most_from ["row", "worths", "at", "last", "known"] (defScope s_most_from) := ⟨rfl, rfl, rfl, by decide +kernel, rfl, by decide +kernel, by decide +kernel⟩
theorem d_most_from (T : Tx mg) (h_next_last : Kn P w K mg base 1 "next_last" ["last", "card", "side"] A_next_last) {Arec : ASp} {kk : Nat} (hrec : Kn P w K mg base kk "most_from" ["row", "worths", "at", "last", "known"] Arec) (hkk : 1 ≤ kk) {f : Addr} (cdv : Value) (Ar : Around) (outer : List Env) (s : Shared) (H : Hp) (E : XK) (hr : Room kk (Ar.deeper (envOfC "most_from" (defScope s_most_from) s.heap.objs.size f cdv))) :
    ASs (cxOf CX0 P w K mg base N_most_from "most_from" (defScope s_most_from) f cdv Ar outer s H E).nox (defBody s_most_from) (t_most_from Arec) := by
  have hrr := hr
  exact (as_cons (as_if (at_eq hr.units (ae_var (pv 2)) (ae_len (by rfl) T.b_len (ae_var (pv 0)))) (as_one (as_ret ae_int)) as_nil)
      (as_cons (as_set (i := 5) sc_most_from.nd rfl (by first | exact .inl rfl | exact .inr rfl) (ae_tup (aa_cons (ae_var (pv 2)) (aa_cons (ae_var (pv 3)) aa_nil))))
      (as_cons (as_if (at_ninD hr.units (ae_var (pv 5)) (ae_var (pv 4)) (by rfl)) (as_cons (as_set (i := 6) sc_most_from.nd rfl (by first | exact .inl rfl | exact .inr rfl) (ae_callK hrec hrr (by rfl) (aa_cons (ae_var (pv 0)) (aa_cons (ae_var (pv 1)) (aa_cons (ae_add (ae_var (pv 2)) ae_int) (aa_cons (ae_var (pv 3)) (aa_cons (ae_var (pv 4)) aa_nil)))))))
      (as_cons (as_for (g := (.one 7)) PassesOwn.never rfl (ai_seq (ae_tup (aa_cons ae_str (aa_cons ae_str aa_nil)))) (pg_name (i := 7) sc_most_from.nd rfl (by first | exact .inl rfl | exact .inr rfl)) (as_cons (as_set (i := 8) sc_most_from.nd rfl (by first | exact .inl rfl | exact .inr rfl) (ae_callK h_next_last (hr.mono (Nat.le_trans (by decide) hkk)) (by rfl) (aa_cons (ae_var (pv 3)) (aa_cons (ae_item (ae_var (pv 0)) (ae_var (pv 2)) (fun _ _ => rfl)) (aa_cons (ae_var (pv 7)) aa_nil)))))
      (as_one (as_if (at_notN (ae_var (pv 8))) (as_one (as_set (i := 6) sc_most_from.nd rfl (by first | exact .inl rfl | exact .inr rfl) (ae_max2 rfl (by rfl) T.b_max (ae_var (pv 6)) (ae_add (ae_item (ae_var (pv 1)) (ae_var (pv 2)) (fun _ _ => rfl)) (ae_callK hrec hrr (by rfl) (aa_cons (ae_var (pv 0)) (aa_cons (ae_var (pv 1)) (aa_cons (ae_add (ae_var (pv 2)) ae_int) (aa_cons (ae_var (pv 8)) (aa_cons (ae_var (pv 4)) aa_nil)))))))))) as_nil))))
      (as_one (as_setD hr.units (ae_var (pv 6)) (ae_var (pv 4)) (ae_var (pv 5)))))) as_nil)
      (as_one (as_ret (ae_dget hr.units (ae_var (pv 4)) (ae_var (pv 5)) (fun _ _ => rfl)))))))
theorem sc_stays : FnScope N_stays ["row", "worths", "at", "lasts", "known"] (defScope s_stays) := ⟨rfl, rfl, rfl, by decide +kernel, rfl, by decide +kernel, by decide +kernel⟩
theorem d_stays (T : Tx mg) (h_next_last : Kn P w K mg base 1 "next_last" ["last", "card", "side"] A_next_last) (h_most_from : Kn P w K mg base 42 "most_from" ["row", "worths", "at", "last", "known"] A_most_from) {f : Addr} (cdv : Value) (Ar : Around) (outer : List Env) (s : Shared) (H : Hp) (E : XK) (hr : Room 42 (Ar.deeper (envOfC "stays" (defScope s_stays) s.heap.objs.size f cdv))) :
    ASs (cxOf CX0 P w K mg base N_stays "stays" (defScope s_stays) f cdv Ar outer s H E).nox (defBody s_stays) (t_stays) := by
  exact (as_cons (as_set (i := 5) sc_stays.nd rfl (by first | exact .inl rfl | exact .inr rfl) ae_dnew')
      (as_cons (as_for (g := (.one 6)) PassesOwn.never rfl (ai_seq (ae_var (pv 3))) (pg_name (i := 6) sc_stays.nd rfl (by first | exact .inl rfl | exact .inr rfl)) (as_one (as_for (g := (.one 7)) PassesOwn.never rfl (ai_seq (ae_tup (aa_cons ae_str (aa_cons ae_str aa_nil)))) (pg_name (i := 7) sc_stays.nd rfl (by first | exact .inl rfl | exact .inr rfl)) (as_cons (as_set (i := 8) sc_stays.nd rfl (by first | exact .inl rfl | exact .inr rfl) (ae_callK h_next_last (hr.mono (by decide)) (by rfl) (aa_cons (ae_var (pv 6)) (aa_cons (ae_item (ae_var (pv 0)) (ae_var (pv 2)) (fun _ _ => rfl)) (aa_cons (ae_var (pv 7)) aa_nil)))))
      (as_one (as_if (at_notN (ae_var (pv 8))) (as_cons (as_set (i := 9) sc_stays.nd rfl (by first | exact .inl rfl | exact .inr rfl) (ae_add (ae_item (ae_var (pv 1)) (ae_var (pv 2)) (fun _ _ => rfl)) (ae_callK h_most_from (hr.mono (by decide)) (by rfl) (aa_cons (ae_var (pv 0)) (aa_cons (ae_var (pv 1)) (aa_cons (ae_add (ae_var (pv 2)) ae_int) (aa_cons (ae_var (pv 8)) (aa_cons (ae_var (pv 4)) aa_nil))))))))
      (as_one (as_if (at_eq hr.units (ae_var (pv 9)) (ae_callK h_most_from (hr.mono (by decide)) (by rfl) (aa_cons (ae_var (pv 0)) (aa_cons (ae_var (pv 1)) (aa_cons (ae_var (pv 2)) (aa_cons (ae_var (pv 6)) (aa_cons (ae_var (pv 4)) aa_nil))))))) (as_one (as_setD hr.units ae_bl (ae_var (pv 5)) (ae_var (pv 8)))) as_nil))) as_nil))))))
      (as_one (as_ret (ae_listD rfl (by rfl) T.b_list (ae_var (pv 5)))))))
theorem sc_leaving : FnScope N_leaving ["row", "worths"] (defScope s_leaving) := ⟨rfl, rfl, rfl, by decide +kernel, rfl, by decide +kernel, by decide +kernel⟩
theorem d_leaving (T : Tx mg) (h_begun : Kn P w K mg base 1 "begun" [] A_begun) (h_most_from : Kn P w K mg base 42 "most_from" ["row", "worths", "at", "last", "known"] A_most_from) (h_stays : Kn P w K mg base 43 "stays" ["row", "worths", "at", "lasts", "known"] A_stays) {f : Addr} (cdv : Value) (Ar : Around) (outer : List Env) (s : Shared) (H : Hp) (E : XK) (hr : Room 43 (Ar.deeper (envOfC "leaving" (defScope s_leaving) s.heap.objs.size f cdv))) :
    ASs (cxOf CX0 P w K mg base N_leaving "leaving" (defScope s_leaving) f cdv Ar outer s H E).nox (defBody s_leaving) (t_leaving) := by
  exact (as_cons (as_set (i := 2) sc_leaving.nd rfl (by first | exact .inl rfl | exact .inr rfl) ae_dnew')
      (as_cons (as_set (i := 3) sc_leaving.nd rfl (by first | exact .inl rfl | exact .inr rfl) (ae_lst (aa_cons (ae_callK0 h_begun (hr.mono (by decide)) (by rfl)) aa_nil)))
      (as_cons (as_set (i := 4) sc_leaving.nd rfl (by first | exact .inl rfl | exact .inr rfl) (ae_lstM aa_nil))
      (as_cons (as_for (g := (.one 5)) PassesOwn.never rfl (ai_range1 (by rfl) T.b_range (ae_len (by rfl) T.b_len (ae_var (pv 0)))) (pg_name (i := 5) sc_leaving.nd rfl (by first | exact .inl rfl | exact .inr rfl)) (as_cons (as_set (i := 6) sc_leaving.nd rfl (by first | exact .inl rfl | exact .inr rfl) (ae_lstM aa_nil))
      (as_cons (as_for (g := (.one 7)) PassesOwn.never rfl (ai_seq (ae_var (pv 3))) (pg_name (i := 7) sc_leaving.nd rfl (by first | exact .inl rfl | exact .inr rfl)) (as_one (as_if (at_eq hr.units (ae_callK h_most_from (hr.mono (by decide)) (by rfl) (aa_cons (ae_var (pv 0)) (aa_cons (ae_var (pv 1)) (aa_cons (ae_var (pv 5)) (aa_cons (ae_var (pv 7)) (aa_cons (ae_var (pv 2)) aa_nil)))))) (ae_callK h_most_from (hr.mono (by decide)) (by rfl) (aa_cons (ae_var (pv 0)) (aa_cons (ae_var (pv 1)) (aa_cons (ae_add (ae_var (pv 5)) ae_int) (aa_cons (ae_var (pv 7)) (aa_cons (ae_var (pv 2)) aa_nil))))))) (as_one (as_expr (ae_append (ae_var (pv 6)) (aa_cons (ae_var (pv 7)) aa_nil)))) as_nil)))
      (as_one (as_if (at_ne hr.units (ae_var (pv 6)) (ae_lst aa_nil)) (as_cons (as_expr (ae_append (ae_var (pv 4)) (aa_cons (ae_var (pv 5)) aa_nil)))
      (as_one (as_set (i := 3) sc_leaving.nd rfl (by first | exact .inl rfl | exact .inr rfl) (ae_frz (ae_var (pv 6)))))) (as_one (as_set (i := 3) sc_leaving.nd rfl (by first | exact .inl rfl | exact .inr rfl) (ae_callK h_stays (hr.mono (by decide)) (by rfl) (aa_cons (ae_var (pv 0)) (aa_cons (ae_var (pv 1)) (aa_cons (ae_var (pv 5)) (aa_cons (ae_var (pv 3)) (aa_cons (ae_var (pv 2)) aa_nil)))))))))))))
      (as_one (as_ret (ae_tuple (by rfl) T.b_tuple (ae_var (pv 4)))))))))
theorem sc_fewest : FnScope N_fewest ["row"] (defScope s_fewest) := ⟨rfl, rfl, rfl, by decide +kernel, rfl, by decide +kernel, by decide +kernel⟩
theorem d_fewest (T : Tx mg) (h_need_row : Kn P w K mg base 3 "need_row" ["row"] A_need_row) (h_leaving : Kn P w K mg base 44 "leaving" ["row", "worths"] A_leaving) {f : Addr} (cdv : Value) (Ar : Around) (outer : List Env) (s : Shared) (H : Hp) (E : XK) (hr : Room 44 (Ar.deeper (envOfC "fewest" (defScope s_fewest) s.heap.objs.size f cdv))) :
    ASs (cxOf CX0 P w K mg base N_fewest "fewest" (defScope s_fewest) f cdv Ar outer s H E).nox (defBody s_fewest) (t_fewest) := by
  exact (as_cons (as_expr (ae_callK h_need_row (hr.mono (by decide)) (by rfl) (aa_cons (ae_var (pv 0)) aa_nil)))
      (as_cons (as_set (i := 1) sc_fewest.nd rfl (by first | exact .inl rfl | exact .inr rfl) (ae_callK h_leaving (hr.mono (by decide)) (by rfl) (aa_cons (ae_var (pv 0)) (aa_cons (ae_repT (ae_tup (aa_cons ae_int aa_nil)) (ae_len (by rfl) T.b_len (ae_var (pv 0)))) aa_nil))))
      (as_one (as_ret (ae_tup (aa_cons (ae_len (by rfl) T.b_len (ae_var (pv 1))) (aa_cons (ae_var (pv 1)) aa_nil)))))))
theorem sc_need_worths : FnScope N_need_worths ["row", "worths"] (defScope s_need_worths) := ⟨rfl, rfl, rfl, by decide +kernel, rfl, by decide +kernel, by decide +kernel⟩
theorem d_need_worths (T : Tx mg) (h_need_row : Kn P w K mg base 3 "need_row" ["row"] A_need_row) (h_is_from : Kn P w K mg base 1 "is_from" ["thing", "low", "high"] A_is_from) {f : Addr} (cdv : Value) (Ar : Around) (outer : List Env) (s : Shared) (H : Hp) (E : XK) (hr : Room 3 (Ar.deeper (envOfC "need_worths" (defScope s_need_worths) s.heap.objs.size f cdv))) :
    ASs (cxOf CX0 P w K mg base N_need_worths "need_worths" (defScope s_need_worths) f cdv Ar outer s H E).nox (defBody s_need_worths) (t_need_worths) := by
  exact (as_cons (as_expr (ae_callK h_need_row (hr.mono (by decide)) (by rfl) (aa_cons (ae_var (pv 0)) aa_nil)))
      (as_cons (as_set (i := 2) sc_need_worths.nd rfl (by first | exact .inl rfl | exact .inr rfl) (ae_and (ae_isi (T := "tuple") (by simp) (by rfl) T.b_isinstance (by rfl) T.b_tuple (by decide +kernel) (ae_var (pv 1))) (ae_one (ae_eq hr.units (ae_len (by rfl) T.b_len (ae_var (pv 1))) (ae_len (by rfl) T.b_len (ae_var (pv 0)))))))
      (as_one (as_if (PW.pt (aw_or (at_not (at_val (ae_var (pv 2)))) (aw_or1 (at_not (at_val (ae_all rfl (by rfl) T.b_all (ae_lc (own := [("one", 3)]) (g := (.one 3)) (by decide) rfl sc_need_worths.nd (ai_seq (ae_var (pv 1))) (blkOk_by (own := [("one", 3)]) (N := N_need_worths) (sc := defScope s_need_worths) (by decide +kernel)) (fun _ _ _ _ _ => (pg_name (i := 3) sc_need_worths.nd rfl (by first | exact .inl rfl | exact .inr rfl))) (fun _ _ _ _ _ => apts_nil) (fun _ _ _ _ _ => (ae_callK h_is_from (hr.mono (by decide)) (by rfl) (aa_cons (ae_var (pv 3)) (aa_cons ae_int (aa_cons (ae_gint (by rfl) T.g_MOST_WORTH) aa_nil)))))))))))) (as_one as_never) as_nil))))
theorem sc_worth : FnScope N_worth ["row", "worths"] (defScope s_worth) := ⟨rfl, rfl, rfl, by decide +kernel, rfl, by decide +kernel, by decide +kernel⟩
theorem d_worth (T : Tx mg) (h_need_worths : Kn P w K mg base 4 "need_worths" ["row", "worths"] A_need_worths) (h_begun : Kn P w K mg base 1 "begun" [] A_begun) (h_most_from : Kn P w K mg base 42 "most_from" ["row", "worths", "at", "last", "known"] A_most_from) {f : Addr} (cdv : Value) (Ar : Around) (outer : List Env) (s : Shared) (H : Hp) (E : XK) (hr : Room 42 (Ar.deeper (envOfC "worth" (defScope s_worth) s.heap.objs.size f cdv))) :
    ASs (cxOf CX0 P w K mg base N_worth "worth" (defScope s_worth) f cdv Ar outer s H E).nox (defBody s_worth) (t_worth) := by
  exact (as_cons (as_expr (ae_callK h_need_worths (hr.mono (by decide)) (by rfl) (aa_cons (ae_var (pv 0)) (aa_cons (ae_var (pv 1)) aa_nil))))
      (as_one (as_ret (ae_callK h_most_from (hr.mono (by decide)) (by rfl) (aa_cons (ae_var (pv 0)) (aa_cons (ae_var (pv 1)) (aa_cons ae_int (aa_cons (ae_callK0 h_begun (hr.mono (by decide)) (by rfl)) (aa_cons ae_dnew' aa_nil)))))))))
theorem sc_seams : FnScope N_seams ["ring"] (defScope s_seams) := ⟨rfl, rfl, rfl, by decide +kernel, rfl, by decide +kernel, by decide +kernel⟩
theorem d_seams (T : Tx mg) (h_need_row : Kn P w K mg base 3 "need_row" ["row"] A_need_row) (h_is_woven : Kn P w K mg base 43 "is_woven" ["row"] A_is_woven) {f : Addr} (cdv : Value) (Ar : Around) (outer : List Env) (s : Shared) (H : Hp) (E : XK) (hr : Room 43 (Ar.deeper (envOfC "seams" (defScope s_seams) s.heap.objs.size f cdv))) :
    ASs (cxOf CX0 P w K mg base N_seams "seams" (defScope s_seams) f cdv Ar outer s H E).nox (defBody s_seams) (t_seams) := by
  exact (as_cons (as_expr (ae_callK h_need_row (hr.mono (by decide)) (by rfl) (aa_cons (ae_var (pv 0)) aa_nil)))
      (as_one (as_ret (ae_lcM (own := [("seam", 1)]) (g := (.one 1)) (by decide) rfl sc_seams.nd (ai_range1 (by rfl) T.b_range (ae_len (by rfl) T.b_len (ae_var (pv 0)))) (blkOk_by (own := [("seam", 1)]) (N := N_seams) (sc := defScope s_seams) (by decide +kernel)) (fun _ _ _ _ _ => (pg_name (i := 1) sc_seams.nd rfl (by first | exact .inl rfl | exact .inr rfl))) (fun _ _ _ _ _ => (apts_one (at_val (ae_callK h_is_woven (hr.mono (by decide)) (by rfl) (aa_cons (ae_add (ae_sl (ae_var (pv 0)) (apo_some (ae_var (pv 1))) apo_none) (ae_sl (ae_var (pv 0)) apo_none (apo_some (ae_var (pv 1))))) aa_nil))))) (fun _ _ _ _ _ => (ae_var (pv 1)))))))
theorem sc_is_hidden : FnScope N_is_hidden ["thing"] (defScope s_is_hidden) := ⟨rfl, rfl, rfl, by decide +kernel, rfl, by decide +kernel, by decide +kernel⟩
theorem d_is_hidden (T : Tx mg) (h_is_from : Kn P w K mg base 1 "is_from" ["thing", "low", "high"] A_is_from) {f : Addr} (cdv : Value) (Ar : Around) (outer : List Env) (s : Shared) (H : Hp) (E : XK) (hr : Room 1 (Ar.deeper (envOfC "is_hidden" (defScope s_is_hidden) s.heap.objs.size f cdv))) :
    ASs (cxOf CX0 P w K mg base N_is_hidden "is_hidden" (defScope s_is_hidden) f cdv Ar outer s H E).nox (defBody s_is_hidden) (t_is_hidden) := by
  exact (as_cons (as_if (PW.pt (aw_or (at_not (at_val (ae_isi (T := "tuple") (by simp) (by rfl) T.b_isinstance (by rfl) T.b_tuple (by decide +kernel) (ae_var (pv 0))))) (aw_or1 (at_not (at_ch op_le op_le pu_c ae_int (ae_len (by rfl) T.b_len (ae_var (pv 0))) (ae_gint (by rfl) T.g_MOST_HIDDEN)))))) (as_one (as_ret ae_bl)) as_nil)
      (as_cons (as_if (at_not (at_val (ae_all rfl (by rfl) T.b_all (ae_lc (own := [("one", 1)]) (g := (.one 1)) (by decide) rfl sc_is_hidden.nd (ai_seq (ae_var (pv 0))) (blkOk_by (own := [("one", 1)]) (N := N_is_hidden) (sc := defScope s_is_hidden) (by decide +kernel)) (fun _ _ _ _ _ => (pg_name (i := 1) sc_is_hidden.nd rfl (by first | exact .inl rfl | exact .inr rfl))) (fun _ _ _ _ _ => apts_nil) (fun _ _ _ _ _ => (ae_or (ae_isN (ae_var (pv 1))) (ae_one (ae_callK h_is_from (hr.mono (by decide)) (by rfl) (aa_cons (ae_var (pv 1)) (aa_cons ae_int (aa_cons (ae_len (by rfl) T.b_len (ae_var (pv 0))) aa_nil))))))))))) (as_one (as_ret ae_bl)) as_nil)
      (as_cons (as_setLc (i := 2) (own := [("one", 1)]) (g := (.one 1)) (by decide) rfl sc_is_hidden.nd rfl rfl (sw_true rfl rfl rfl (by decide +kernel)) (ai_seq (ae_var (pv 0))) (blkOk_by (own := [("one", 1)]) (N := N_is_hidden) (sc := defScope s_is_hidden) (by decide +kernel)) (fun _ _ _ _ _ => (pg_name (i := 1) sc_is_hidden.nd rfl (by first | exact .inl rfl | exact .inr rfl))) (fun _ _ _ _ _ => (apts_one (at_notN (ae_var (pv 1))))) (fun _ _ _ _ _ => (ae_var (pv 1))))
      (as_one (as_ret (ae_eq hr.units (ae_len (by rfl) T.b_len (ae_var (pv 2))) (ae_lenSetI (by rfl) T.b_len (by rfl) T.b_set (ae_var (pv 2)))))))))
theorem sc_filled : FnScope N_filled ["hidden"] (defScope s_filled) := ⟨rfl, rfl, rfl, by decide +kernel, rfl, by decide +kernel, by decide +kernel⟩
theorem d_filled (T : Tx mg) (h_is_hidden : Kn P w K mg base 2 "is_hidden" ["thing"] A_is_hidden) (h_is_woven : Kn P w K mg base 43 "is_woven" ["row"] A_is_woven) {f : Addr} (cdv : Value) (Ar : Around) (outer : List Env) (s : Shared) (H : Hp) (E : XK) (hr : Room 43 (Ar.deeper (envOfC "filled" (defScope s_filled) s.heap.objs.size f cdv))) :
    ASs (cxOf CX0 P w K mg base N_filled "filled" (defScope s_filled) f cdv Ar outer s H E).nox (defBody s_filled) (t_filled) := by
  exact (as_cons (as_if (at_not (at_val (ae_callK h_is_hidden (hr.mono (by decide)) (by rfl) (aa_cons (ae_var (pv 0)) aa_nil)))) (as_one as_never) as_nil)
      (as_cons (as_set (i := 1) sc_filled.nd rfl (by first | exact .inl rfl | exact .inr rfl) (ae_lst (aa_cons (ae_tup aa_nil) aa_nil)))
      (as_cons (as_for (g := (.one 2)) PassesOwn.never rfl (ai_seq (ae_var (pv 0))) (pg_name (i := 2) sc_filled.nd rfl (by first | exact .inl rfl | exact .inr rfl)) (as_cons (as_set (i := 3) sc_filled.nd rfl (by first | exact .inl rfl | exact .inr rfl) (ae_lstM aa_nil))
      (as_cons (as_for (g := (.one 4)) PassesOwn.never rfl (ai_seq (ae_var (pv 1))) (pg_name (i := 4) sc_filled.nd rfl (by first | exact .inl rfl | exact .inr rfl)) (as_one (as_for (g := (.one 5)) PassesOwn.never rfl (ai_range2 (by rfl) T.b_range ae_int (ae_add (ae_len (by rfl) T.b_len (ae_var (pv 0))) ae_int)) (pg_name (i := 5) sc_filled.nd rfl (by first | exact .inl rfl | exact .inr rfl)) (as_one (as_if (PW.pt (aw_and (at_nin (u65 hr) (ae_var (pv 5)) (ae_var (pv 4)) (by rfl)) (aw_and1 (PW.pt (aw_or (at_eq hr.units (ae_var (pv 2)) (ae_var (pv 5))) (aw_or1 (PW.pt (aw_and (at_isN (ae_var (pv 2))) (aw_and1 (at_nin (u65 hr) (ae_var (pv 5)) (ae_var (pv 0)) (by rfl))))))))))) (as_one (as_expr (ae_append (ae_var (pv 3)) (aa_cons (ae_add (ae_var (pv 4)) (ae_tup (aa_cons (ae_var (pv 5)) aa_nil))) aa_nil)))) as_nil)))))
      (as_one (as_setLc (i := 1) (own := [("row", 4)]) (g := (.one 4)) (by decide) rfl sc_filled.nd rfl rfl (sw_true rfl rfl rfl (by decide +kernel)) (ai_seq (ae_var (pv 3))) (blkOk_by (own := [("row", 4)]) (N := N_filled) (sc := defScope s_filled) (by decide +kernel)) (fun _ _ _ _ _ => (pg_name (i := 4) sc_filled.nd rfl (by first | exact .inl rfl | exact .inr rfl))) (fun _ _ _ _ _ => (apts_one (at_val (ae_callK h_is_woven (hr.mono (by decide)) (by rfl) (aa_cons (ae_var (pv 4)) aa_nil))))) (fun _ _ _ _ _ => (ae_var (pv 4))))))))
      (as_one (as_ret (ae_tup (aa_cons (ae_len (by rfl) T.b_len (ae_var (pv 1))) (aa_cons (ae_ifExp (at_ne hr.units (ae_var (pv 1)) (ae_lst aa_nil)) (ae_item (ae_var (pv 1)) ae_int (fun _ _ => rfl)) ae_non) aa_nil))))))))
theorem sc_Laid_init : FnScope N_Laid_init ["self"] (defScope s_Laid_init) := ⟨rfl, rfl, rfl, by decide +kernel, rfl, by decide +kernel, by decide +kernel⟩
theorem d_Laid_init (T : Tx mg) {CL : Addr} (cl : Cls K CL) (nr : NoAttr K CL "row") {f : Addr} (cdv : Value) (Ar : Around) (outer : List Env) (s : Shared) (H : Hp) (E : XK) (hr : Room 0 (Ar.deeper (envOfC "Laid.__init__" (defScope s_Laid_init) s.heap.objs.size f cdv))) :
    ASs (cxOf CX0 P w K mg base N_Laid_init "Laid.__init__" (defScope s_Laid_init) f cdv Ar outer s H E).nox (defBody s_Laid_init) (t_Laid_init CL) := by
  exact (as_one (as_fld cl nr (ae_var (pv 0)) (ae_tup aa_nil)))
theorem sc_Laid_lay : FnScope N_Laid_lay ["self", "card"] (defScope s_Laid_lay) := ⟨rfl, rfl, rfl, by decide +kernel, rfl, by decide +kernel, by decide +kernel⟩
theorem d_Laid_lay (T : Tx mg) {CL : Addr} (cl : Cls K CL) (nr : NoAttr K CL "row") (h_is_from : Kn P w K mg base 1 "is_from" ["thing", "low", "high"] A_is_from) (h_four_with : Kn P w K mg base 2 "four_with" ["row", "last"] A_four_with) {f : Addr} (cdv : Value) (Ar : Around) (outer : List Env) (s : Shared) (H : Hp) (E : XK) (hr : Room 2 (Ar.deeper (envOfC "Laid.lay" (defScope s_Laid_lay) s.heap.objs.size f cdv))) :
    ASs (cxOf CX0 P w K mg base N_Laid_lay "Laid.lay" (defScope s_Laid_lay) f cdv Ar outer s H E).nox (defBody s_Laid_lay) (t_Laid_lay CL) := by
  exact (as_cons (as_if (at_not (at_val (ae_callK h_is_from (hr.mono (by decide)) (by rfl) (aa_cons (ae_var (pv 1)) (aa_cons ae_int (aa_cons (ae_gint (by rfl) T.g_MOST_NUMBER) aa_nil)))))) (as_one as_never) as_nil)
      (as_cons (as_if (at_in (u65 hr) (ae_var (pv 1)) (ae_fld cl nr (ae_var (pv 0))) (by rfl)) (as_one as_never) as_nil)
      (as_cons (as_if (at_eq hr.units (ae_len (by rfl) T.b_len (ae_fld cl nr (ae_var (pv 0)))) (ae_gint (by rfl) T.g_MOST_CARDS)) (as_one as_never) as_nil)
      (as_cons (as_set (i := 2) sc_Laid_lay.nd rfl (by first | exact .inl rfl | exact .inr rfl) (ae_add (ae_fld cl nr (ae_var (pv 0))) (ae_tup (aa_cons (ae_var (pv 1)) aa_nil))))
      (as_cons (as_set (i := 3) sc_Laid_lay.nd rfl (by first | exact .inl rfl | exact .inr rfl) (ae_callK h_four_with (hr.mono (by decide)) (by rfl) (aa_cons (ae_var (pv 2)) (aa_cons (ae_len (by rfl) T.b_len (ae_fld cl nr (ae_var (pv 0)))) aa_nil))))
      (as_cons (as_if (at_notN (ae_var (pv 3))) (as_one as_never) as_nil)
      (as_one (as_fld cl nr (ae_var (pv 0)) (ae_var (pv 2))))))))))
theorem sc_Laid_can_be_laid : FnScope N_Laid_can_be_laid ["self"] (defScope s_Laid_can_be_laid) := ⟨rfl, rfl, rfl, by decide +kernel, rfl, by decide +kernel, by decide +kernel⟩
theorem d_Laid_can_be_laid (T : Tx mg) {CL : Addr} (cl : Cls K CL) (nr : NoAttr K CL "row") (h_is_woven : Kn P w K mg base 43 "is_woven" ["row"] A_is_woven) {f : Addr} (cdv : Value) (Ar : Around) (outer : List Env) (s : Shared) (H : Hp) (E : XK) (hr : Room 43 (Ar.deeper (envOfC "Laid.can_be_laid" (defScope s_Laid_can_be_laid) s.heap.objs.size f cdv))) :
    ASs (cxOf CX0 P w K mg base N_Laid_can_be_laid "Laid.can_be_laid" (defScope s_Laid_can_be_laid) f cdv Ar outer s H E).nox (defBody s_Laid_can_be_laid) (t_Laid_can_be_laid CL) := by
  exact (as_cons (as_set (i := 1) sc_Laid_can_be_laid.nd rfl (by first | exact .inl rfl | exact .inr rfl) (ae_lstM aa_nil))
      (as_cons (as_set (i := 2) sc_Laid_can_be_laid.nd rfl (by first | exact .inl rfl | exact .inr rfl) ae_int)
      (as_cons (as_for (g := (.one 3)) PassesOwn.never rfl (ai_seq (ae_add (ae_sorted (by rfl) T.b_sorted (ae_fld cl nr (ae_var (pv 0)))) (ae_lst (aa_cons (ae_add (ae_gint (by rfl) T.g_MOST_NUMBER) ae_int) aa_nil)))) (pg_name (i := 3) sc_Laid_can_be_laid.nd rfl (by first | exact .inl rfl | exact .inr rfl)) (as_cons (as_if (PW.pt (aw_and (at_lt (ae_var (pv 2)) (ae_var (pv 3))) (aw_and1 (at_val (ae_callK h_is_woven (hr.mono (by decide)) (by rfl) (aa_cons (ae_add (ae_fld cl nr (ae_var (pv 0))) (ae_tup (aa_cons (ae_var (pv 2)) aa_nil))) aa_nil)))))) (as_one (as_expr (ae_append (ae_var (pv 1)) (aa_cons (ae_tup (aa_cons (ae_var (pv 2)) (aa_cons (ae_sub (ae_var (pv 3)) ae_int) aa_nil))) aa_nil)))) as_nil)
      (as_one (as_set (i := 2) sc_Laid_can_be_laid.nd rfl (by first | exact .inl rfl | exact .inr rfl) (ae_add (ae_var (pv 3)) ae_int)))))
      (as_one (as_ret (ae_frz (ae_var (pv 1))))))))
theorem sc__law_deck : FnScope N__law_deck ["cell", "turn"] (defScope s__law_deck) := ⟨rfl, rfl, rfl, by decide +kernel, rfl, by decide +kernel, by decide +kernel⟩
theorem d__law_deck (T : Tx mg) {f : Addr} (cdv : Value) (Ar : Around) (outer : List Env) (s : Shared) (H : Hp) (E : XK) (hr : Room 0 (Ar.deeper (envOfC "_law_deck" (defScope s__law_deck) s.heap.objs.size f cdv))) :
    ASs (cxOf CX0 P w K mg base N__law_deck "_law_deck" (defScope s__law_deck) f cdv Ar outer s H E).nox (defBody s__law_deck) (t__law_deck) := by
  exact (as_cons (as_if (at_ge (ae_var (pv 0)) (ae_pow ae_int ae_int)) (as_one (as_ret (ae_lstM (aa_cons (ae_sub (ae_var (pv 0)) (ae_pow ae_int ae_int)) (aa_cons (ae_mod (ae_var (pv 0)) ae_int) (aa_cons (ae_var (pv 1)) aa_nil)))))) as_nil)
      (as_one (as_ret (ae_lstM (aa_cons ae_int (aa_cons (ae_mod (ae_var (pv 0)) ae_int) (aa_cons (ae_var (pv 1)) aa_nil)))))))
theorem sc__law_pick : FnScope N__law_pick ["deck", "size"] (defScope s__law_pick) := ⟨rfl, rfl, rfl, by decide +kernel, rfl, by decide +kernel, by decide +kernel⟩
theorem d__law_pick (T : Tx mg) {f : Addr} (cdv : Value) (Ar : Around) (outer : List Env) (s : Shared) (H : Hp) (E : XK) (hr : Room 0 (Ar.deeper (envOfC "_law_pick" (defScope s__law_pick) s.heap.objs.size f cdv))) :
    ASs (cxOf CX0 P w K mg base N__law_pick "_law_pick" (defScope s__law_pick) f cdv Ar outer s H E).nox (defBody s__law_pick) (t__law_pick) := by
  exact (as_cons (as_if (at_gt (ae_item (ae_var (pv 0)) ae_int (fun _ _ => rfl)) ae_int) (as_cons (as_set (i := 2) sc__law_pick.nd rfl (by first | exact .inl rfl | exact .inr rfl) (ae_mod (ae_item (ae_var (pv 0)) ae_int (fun _ _ => rfl)) (ae_var (pv 1))))
      (as_cons (as_setI (ae_fdiv (ae_item (ae_var (pv 0)) ae_int (fun _ _ => rfl)) (ae_var (pv 1))) (ae_var (pv 0)) ae_int)
      (as_one (as_ret (ae_var (pv 2)))))) as_nil)
      (as_cons (as_setI (ae_add (ae_item (ae_var (pv 0)) ae_int (fun _ _ => rfl)) ae_int) (ae_var (pv 0)) ae_int)
      (as_cons (as_set (i := 3) sc__law_pick.nd rfl (by first | exact .inl rfl | exact .inr rfl) (ae_mod (ae_pow (ae_add (ae_item (ae_var (pv 0)) ae_int (fun _ _ => rfl)) (ae_mul ae_int (ae_item (ae_var (pv 0)) ae_int (fun _ _ => rfl)))) ae_int) ae_int))
      (as_cons (as_set (i := 2) sc__law_pick.nd rfl (by first | exact .inl rfl | exact .inr rfl) (ae_fdiv (ae_mod (ae_pow (ae_add (ae_var (pv 3)) (ae_mul ae_int (ae_item (ae_var (pv 0)) ae_int (fun _ _ => rfl)))) ae_int) ae_int) ae_int))
      (as_one (as_ret (ae_mod (ae_var (pv 2)) (ae_var (pv 1)))))))))
theorem sc_law : FnScope N_law ["script"] (defScope s_law) := ⟨rfl, rfl, rfl, by decide +kernel, rfl, by decide +kernel, by decide +kernel⟩
theorem d_law (T : Tx mg) {cc PT ft : Addr} {fdt : FuncData} (TB : LamX.TabB base mg cc PT) (F_try : Fun K "_law_try" "_law_try" s__law_try ft fdt) (g_try : mg "_law_try" = some (.ref ft)) (b_try : Binds K fdt ["door"] []) {CL : Addr} (cl : Cls K CL) (nr : NoAttr K CL "row") {C_Laid_lay f_Laid_lay : Addr} {fd_Laid_lay : FuncData} (m_Laid_lay : Meth K CL "lay" f_Laid_lay) (x_Laid_lay : FnOk P w K mg base (L2N.CX P w) 12 f_Laid_lay fd_Laid_lay ["self", "card"] (spRaiseB (mo P w K) (Bad_Laid_lay CL) C_Laid_lay)) (b_Laid_lay : Binds K fd_Laid_lay ["self", "card"] []) (v_Laid_lay : ∀ (X : Cx), X.prog = P → X.w = w → X.K = K → X.mg = mg → X.base = base → ∀ cdv : Value, GivesN X N__law_try "_law_try" (defScope s__law_try) ft cdv (defBody s__law_try) "door" QN 12 (TTb C_Laid_lay "Barred+")) {fi : Addr} {fdi : FuncData} (mk_L : Mk K CL fi) (F_init : FnOk P w K mg base CX0 1 fi fdi ["self"] (spOf (mo P w K) (A_Laid_init CL))) (b_init : Binds K fdi ["self"] []) (g_L : mg "Laid" = some (.ref CL)) (h__law_deck : Kn P w K mg base 1 "_law_deck" ["cell", "turn"] A__law_deck) (h__law_pick : Kn P w K mg base 1 "_law_pick" ["deck", "size"] A__law_pick) (h_how_many : Kn P w K mg base 44 "how_many" ["row"] A_how_many) (h_sides : Kn P w K mg base 45 "sides" ["row"] A_sides) (h_seams : Kn P w K mg base 44 "seams" ["ring"] A_seams) (h_parting : Kn P w K mg base 44 "parting" ["row"] A_parting) (h_four : Kn P w K mg base 4 "four" ["row"] A_four) (h_fewest : Kn P w K mg base 45 "fewest" ["row"] A_fewest) (h_bars : Kn P w K mg base 4 "bars" ["row", "thing"] A_bars) (h_worth : Kn P w K mg base 43 "worth" ["row", "worths"] A_worth) (h_filled : Kn P w K mg base 44 "filled" ["hidden"] A_filled) (h_Laid_lay : KnM P w K mg base CL 3 "lay" ["self", "card"] (A_Laid_lay CL)) (h_Laid_can_be_laid : KnM P w K mg base CL 44 "can_be_laid" ["self"] (A_Laid_can_be_laid CL)) {f : Addr} (Ar : Around) (outer : List Env) (s : Shared) (H : Hp) (E : XK) (hr : Room 45 (Ar.deeper (envOfC "law" (defScope s_law) s.heap.objs.size f (.ref cc)))) :
    ASs (cxOf CX0 P w K mg base N_law "law" (defScope s_law) f (.ref cc) Ar outer s H E).nox (defBody s_law) (t_law PT CL) := by
  exact (as_cons (as_for (g := (.one 1)) PassesOwn.never rfl (ai_seq (ae_sl (ae_add (ae_lst (aa_cons ae_int aa_nil)) (ae_var (pv 0))) apo_none (apo_some ae_int))) (pg_name (i := 1) sc_law.nd rfl (by first | exact .inl rfl | exact .inr rfl)) (as_cons (as_set (i := 2) sc_law.nd rfl (by first | exact .inl rfl | exact .inr rfl) (ae_callK h__law_deck (hr.mono (by decide)) (by rfl) (aa_cons (ae_var (pv 1)) (aa_cons ae_int aa_nil))))
      (as_cons (as_set (i := 3) sc_law.nd rfl (by first | exact .inl rfl | exact .inr rfl) (ae_add ae_int (ae_callK h__law_pick (hr.mono (by decide)) (by rfl) (aa_cons (ae_var (pv 2)) (aa_cons ae_int aa_nil)))))
      (as_cons (as_set (i := 4) sc_law.nd rfl (by first | exact .inl rfl | exact .inr rfl) (ae_tupRg rfl (by rfl) T.b_tuple (by rfl) T.b_range (ae_var (pv 3))))
      (as_cons (as_if (PW.pt (aw_or (at_ne hr.units (ae_callK h_how_many (hr.mono (by decide)) (by rfl) (aa_cons (ae_var (pv 4)) aa_nil)) (ae_add (ae_var (pv 3)) ae_int)) (aw_or1 (at_ne hr.units (ae_callK h_sides (hr.mono (by decide)) (by rfl) (aa_cons (ae_var (pv 4)) aa_nil)) (ae_repT (ae_tup (aa_cons ae_str aa_nil)) (ae_var (pv 3))))))) (as_one (as_ret ae_bl)) as_nil)
      (as_cons (as_if (at_ne hr.units (ae_callK h_seams (hr.mono (by decide)) (by rfl) (aa_cons (ae_var (pv 4)) aa_nil)) (ae_lst (aa_cons ae_int (aa_cons ae_int (aa_cons (ae_sub (ae_var (pv 3)) ae_int) aa_nil))))) (as_one (as_ret ae_bl)) as_nil)
      (as_cons (as_if (PW.pt (aw_or (at_ne hr.units (ae_callK h_parting (hr.mono (by decide)) (by rfl) (aa_cons (ae_var (pv 4)) aa_nil)) (ae_add (ae_tup (aa_cons ae_str aa_nil)) (ae_repT (ae_tup (aa_cons ae_str aa_nil)) (ae_sub (ae_var (pv 3)) ae_int)))) (aw_or1 (at_ne hr.units (ae_callK h_how_many (hr.mono (by decide)) (by rfl) (aa_cons (ae_rev (ae_var (pv 4))) aa_nil)) (ae_add (ae_var (pv 3)) ae_int))))) (as_one (as_ret ae_bl)) as_nil)
      (as_cons (as_set (i := 5) sc_law.nd rfl (by first | exact .inl rfl | exact .inr rfl) (ae_tuple (by rfl) T.b_tuple (ae_lc (own := [("k", 6)]) (g := (.one 6)) (by decide) rfl sc_law.nd (ai_range1 (by rfl) T.b_range (ae_var (pv 3))) (blkOk_by (own := [("k", 6)]) (N := N_law) (sc := defScope s_law) (by decide +kernel)) (fun _ _ _ _ _ => (pg_name (i := 6) sc_law.nd rfl (by first | exact .inl rfl | exact .inr rfl))) (fun _ _ _ _ _ => apts_nil) (fun _ _ _ _ _ => (ae_ifExp (at_eq hr.units (ae_mod (ae_var (pv 6)) ae_int) ae_int) (ae_add ae_int (ae_fdiv (ae_var (pv 6)) ae_int)) (ae_sub ae_int (ae_fdiv (ae_var (pv 6)) ae_int)))))))
      (as_cons (as_set (i := 7) sc_law.nd rfl (by first | exact .inl rfl | exact .inr rfl) (ae_tuple (by rfl) T.b_tuple (ae_lc (own := [("k", 6)]) (g := (.one 6)) (by decide) rfl sc_law.nd (ai_range2 (by rfl) T.b_range ae_int (ae_var (pv 3))) (blkOk_by (own := [("k", 6)]) (N := N_law) (sc := defScope s_law) (by decide +kernel)) (fun _ _ _ _ _ => (pg_name (i := 6) sc_law.nd rfl (by first | exact .inl rfl | exact .inr rfl))) (fun _ _ _ _ _ => apts_nil) (fun _ _ _ _ _ => (ae_item (ae_lst (aa_cons ae_str (aa_cons ae_str aa_nil))) (ae_mod (ae_var (pv 6)) ae_int) (fun _ _ => rfl))))))
      (as_cons (as_if (PW.pt (aw_or (at_ne hr.units (ae_callK h_how_many (hr.mono (by decide)) (by rfl) (aa_cons (ae_var (pv 5)) aa_nil)) ae_int) (aw_or1 (at_ne hr.units (ae_callK h_parting (hr.mono (by decide)) (by rfl) (aa_cons (ae_var (pv 5)) aa_nil)) (ae_add (ae_tup (aa_cons ae_str (aa_cons ae_str aa_nil))) (ae_var (pv 7))))))) (as_one (as_ret ae_bl)) as_nil)
      (as_cons (as_if (PW.pt (aw_or (at_ne hr.units (ae_callK h_sides (hr.mono (by decide)) (by rfl) (aa_cons (ae_var (pv 5)) aa_nil)) (ae_add (ae_tup (aa_cons ae_str (aa_cons ae_str aa_nil))) (ae_var (pv 7)))) (aw_or1 (at_notN (ae_callK h_four (hr.mono (by decide)) (by rfl) (aa_cons (ae_var (pv 5)) aa_nil)))))) (as_one (as_ret ae_bl)) as_nil)
      (as_cons (as_if (PW.pt (aw_or (at_ne hr.units (ae_callK h_four (hr.mono (by decide)) (by rfl) (aa_cons (ae_tup (aa_cons ae_int (aa_cons ae_int (aa_cons ae_int (aa_cons ae_int aa_nil))))) aa_nil)) (ae_tup (aa_cons ae_int (aa_cons ae_int (aa_cons ae_int (aa_cons ae_int aa_nil)))))) (aw_or1 (at_ne hr.units (ae_callK h_four (hr.mono (by decide)) (by rfl) (aa_cons (ae_tup (aa_cons ae_int (aa_cons ae_int (aa_cons ae_int (aa_cons ae_int aa_nil))))) aa_nil)) (ae_tup (aa_cons ae_int (aa_cons ae_int (aa_cons ae_int (aa_cons ae_int aa_nil))))))))) (as_one (as_ret ae_bl)) as_nil)
      (as_cons (as_if (at_ne hr.units (ae_callK h_fewest (hr.mono (by decide)) (by rfl) (aa_cons (ae_tup (aa_cons ae_int (aa_cons ae_int (aa_cons ae_int (aa_cons ae_int aa_nil))))) aa_nil)) (ae_tup (aa_cons ae_int (aa_cons (ae_tup (aa_cons ae_int aa_nil)) aa_nil)))) (as_one (as_ret ae_bl)) as_nil)
      (as_cons (as_if (at_isNotB (ae_callK h_bars (hr.mono (by decide)) (by rfl) (aa_cons (ae_tup (aa_cons ae_int (aa_cons ae_int (aa_cons ae_int (aa_cons ae_int (aa_cons ae_int aa_nil)))))) (aa_cons (ae_tup (aa_cons ae_int (aa_cons ae_int (aa_cons ae_int (aa_cons ae_int aa_nil))))) aa_nil))) ae_bl) (as_one (as_ret ae_bl)) as_nil)
      (as_cons (as_if (at_isNotB (ae_callK h_bars (hr.mono (by decide)) (by rfl) (aa_cons (ae_tup (aa_cons ae_int (aa_cons ae_int (aa_cons ae_int (aa_cons ae_int (aa_cons ae_int aa_nil)))))) (aa_cons (ae_tup (aa_cons ae_int (aa_cons ae_int (aa_cons ae_int (aa_cons ae_int aa_nil))))) aa_nil))) ae_bl) (as_one (as_ret ae_bl)) as_nil)
      (as_cons (as_if (at_ne hr.units (ae_callK h_fewest (hr.mono (by decide)) (by rfl) (aa_cons (ae_tup (aa_cons ae_int (aa_cons ae_int (aa_cons ae_int (aa_cons ae_int (aa_cons ae_int (aa_cons ae_int aa_nil))))))) aa_nil)) (ae_tup (aa_cons ae_int (aa_cons (ae_tup (aa_cons ae_int (aa_cons ae_int aa_nil))) aa_nil)))) (as_one (as_ret ae_bl)) as_nil)
      (as_cons (as_if (at_ne hr.units (ae_callK h_worth (hr.mono (by decide)) (by rfl) (aa_cons (ae_tup (aa_cons ae_int (aa_cons ae_int (aa_cons ae_int (aa_cons ae_int (aa_cons ae_int (aa_cons ae_int aa_nil))))))) (aa_cons (ae_tup (aa_cons ae_int (aa_cons ae_int (aa_cons ae_int (aa_cons ae_int (aa_cons ae_int (aa_cons ae_int aa_nil))))))) aa_nil))) ae_int) (as_one (as_ret ae_bl)) as_nil)
      (as_cons (as_if (PW.pt (aw_or (at_ne hr.units (ae_callK h_filled (hr.mono (by decide)) (by rfl) (aa_cons (ae_tup (aa_cons ae_non (aa_cons ae_non (aa_cons ae_non aa_nil)))) aa_nil)) (ae_tup (aa_cons ae_int (aa_cons (ae_tup (aa_cons ae_int (aa_cons ae_int (aa_cons ae_int aa_nil)))) aa_nil)))) (aw_or1 (at_ne hr.units (ae_callK h_filled (hr.mono (by decide)) (by rfl) (aa_cons (ae_tup (aa_cons ae_int (aa_cons ae_non (aa_cons ae_int (aa_cons ae_non aa_nil))))) aa_nil)) (ae_tup (aa_cons ae_int (aa_cons (ae_tup (aa_cons ae_int (aa_cons ae_int (aa_cons ae_int (aa_cons ae_int aa_nil))))) aa_nil))))))) (as_one (as_ret ae_bl)) as_nil)
      (as_cons (as_set (i := 8) sc_law.nd rfl (by first | exact .inl rfl | exact .inr rfl) (ae_make0 mk_L F_init b_init (hr.mono (by decide)) (by rfl) g_L))
      (as_cons (as_for (g := (.one 9)) PassesOwn.never rfl (ai_seq (ae_tup (aa_cons ae_int (aa_cons ae_int (aa_cons ae_int aa_nil))))) (pg_name (i := 9) sc_law.nd rfl (by first | exact .inl rfl | exact .inr rfl)) (as_one (as_expr (ae_meth cl h_Laid_lay (hr.mono (by decide)) (ae_var (pv 8)) (aa_cons (ae_var (pv 9)) aa_nil)))))
      (as_cons (as_if (at_ne hr.units (ae_meth0 cl h_Laid_can_be_laid (hr.mono (by decide)) (ae_var (pv 8))) (ae_lst (aa_cons (ae_tup (aa_cons ae_int (aa_cons ae_int aa_nil))) (aa_cons (ae_tup (aa_cons ae_int (aa_cons (ae_pow ae_int ae_int) aa_nil))) aa_nil)))) (as_one (as_ret ae_bl)) as_nil)
      (as_one (as_if (at_ne hr.units (ae_doorB (pe_lamN (k := 12) F_try (by rfl) g_try b_try sc__law_try rfl (.inl rfl) (fun cdv => v_Laid_lay _ rfl rfl rfl rfl rfl cdv) TB rfl (hr.mono (by decide)) (LamX.lamS_by (sc := defScope s_law) (by decide +kernel)) rfl (fun _ _ _ _ _ => rfl) (fun A outer s H E f c' hr => pe_methR (ae_var (pv 8)) cl m_Laid_lay x_Laid_lay (hr.mono (by decide)) b_Laid_lay (fun σ => L2N.passAt (L2N.takes_of rfl rfl rfl rfl) σ) (aa_cons ae_int aa_nil)))) (ae_lst (aa_cons ae_str (aa_cons (ae_tup (aa_cons ae_int (aa_cons ae_int (aa_cons ae_int (aa_cons ae_int aa_nil))))) aa_nil)))) (as_one (as_ret ae_bl)) as_nil)))))))))))))))))))))))
      (as_one (as_ret ae_bl)))
end
theorem sp_law {P : Program} {w : World} {K : PySem.W.Frag} {H : Hp} {a PT : Addr} {ns : List Int} (hl : ns.length ≤ 63) (hP : H PT = some (.tbl #[])) (hS : SqL K H a (ns.map V.int)) : spOf (mo P w K) (A_law PT) [.ref a] H (fun v _ => v = .bl true) fun _ _ _ => False := by
  refine ⟨fun _ => False, [.lst (ns.map .int)], fun b => if b = PT then some (.tab QN) else none, fun d _ => d = .bl true, ⟨fun p c e => ?_, fun a (h : False) => h.elim⟩, .cons (.lst ?_ (Reps.of_ints ns)) .nil, ⟨ns, rfl, hl, if_pos rfl, fun _ => rfl⟩, ?_⟩
  · by_cases hp : p = PT
    · subst hp
      rw [if_pos rfl] at e
      cases e
      exact ⟨#[], hP, by trivial, fun pos cv z => by cases z⟩
    · rw [if_neg hp] at e
      cases e
  · rcases hS with h | h
    · have ne : a ≠ PT := fun e => by
        subst e
        rcases h with h | ⟨o, h⟩ <;> (rw [hP] at h; cases h)
      exact .inl ⟨⟨if_neg ne, fun z => z⟩, h⟩
    · exact .inr h
  · intro d L1 v H1 _ _ r e
    subst e
    cases r
    rfl
def bt_Laid_lay (CL : Addr) : ATB := (fun R Δ L => (aIfS (aNot (aB (aCall A_is_from (aCons (aVar 1) (aCons (aC (.int 0)) (aCons (aC (.int 1000000000)) aNil)))))) aNever aNext) { nx := (fun R Δ L => (aIfS (aB (aOp (oIn false) (aVar 1) (aFld CL "row" (aVar 0)))) aNever aNext) { nx := (fun R Δ L => (aIfS (aB (aOp (oEq false) (aCall cLen (aCons (aFld CL "row" (aVar 0)) aNil)) (aC (.int 40)))) aNever aNext) { nx := (fun R Δ L => (aAsg (aOp oAdd (aFld CL "row" (aVar 0)) (aTup (aCons (aVar 1) aNil))) (.one 2)) { nx := (fun R Δ L => (aAsg (aCall A_four_with (aCons (aVar 2) (aCons (aCall cLen (aCons (aFld CL "row" (aVar 0)) aNil)) aNil))) (.one 3)) { nx := (fun R Δ L => (aB (aIsN true (aVar 3))) Δ L fun c L1 => c = true ∧ (fun (R : D → Lg → Prop) Δ L => (aCons (aVar 3) aNil) Δ L fun ds L1 => ∃ r, ds = [r] ∧ R r L1) R Δ L1) R, rt := fun _ _ => False } Δ L) R, rt := fun _ _ => False } Δ L) R, rt := fun _ _ => False } Δ L) R, rt := fun _ _ => False } Δ L) R, rt := fun _ _ => False } Δ L)
theorem rb_Laid_lay {CL : Addr} {ds : List D} {L : Lg} {d : D} (h : Bad_Laid_lay CL ds L d) : bt_Laid_lay CL (fun r' L' => r' = d ∧ L' = L) (startD N_Laid_lay ds) L := by
  obtain ⟨p, r, c, q, rfl, hp, hl, hf, rfl⟩ := h
  show bt_Laid_lay CL _ [some (.ref p), some (.int c), none, none] L
  unfold bt_Laid_lay
  have hc : fromD (.int c) 0 1000000000 = true := by
    have := hl.1.rng c (by simp)
    unfold fromD; simp; omega
  simp only [aSeq, aAsg, Tg.A, aVar, aC, aOp, aCons, aNil, aCall, aTup, aLst, aLstM, aFrz, aRet, aIfS, aNext, aDrop, aNever, aB, aAnd, aOr, aNot, aAndV, aOrV, aNotV, aIf, aCh, aNeg, aIsN, isN, oI0, oI, oEq, oIn, oIx, oAdd, oDIn, oDGet, oSub, oMod, oFdiv, oPow, oMul, oLt, oLe, oGt, oGe, pLe, pLt, see, items, cLen, cAll, cAny, cSorted, cSortedM, cSum, cMax, cMax2, cMin2, cList, cListM, cTuple, aIsi, aTupRg, aLstRg, oNone, oSome, aSl, aRev, aRevM, aBM, mAppend, mPopAt, mInsert, aDNew, aSetI, aSetD, aPar3, aAsgU, aLenSetS, aTabS, oIsB, mIndex, cMinT, aFor, aWhile, iSeq, seqOf, iRg1, iRg2, iZip, iEnum, aYes, aLc, aLcM, aPar, wipeD, setAll, tyD, eq_self, true_implies, false_implies, implies_true, and_true, true_and, ne_eq, not_false_eq_true, reduceCtorEq, Bool.not_true, Bool.not_false, ix30, ix32, at30, at31, at32, isiD_ii, isiD_bi, isiD_tt, isiD_ll, isiD_il, isiD_bl2, isiD_it, isiD_bt, isiD_st, isiD_sl, isiD_lt, isiD_si, isiD_li, isiD_bb, eqD_int, okD_i, List.set_cons_zero, List.set_cons_succ, List.getElem?_cons_zero, List.getElem?_cons_succ, List.length_cons, List.length_nil, List.map_cons, List.map_nil, Option.bind_some, put_same, Bool.xor_false, Bool.false_xor, A_is_from]
  refine ⟨_, _, _, rfl, trivial, ?_⟩
  have hnr : c ∉ r := fun z => by
    have := hl.1.nd
    rw [List.nodup_append] at this
    exact this.2.2 c z c (by simp) rfl
  have hne : decide ((r.length : Int) = 40) = false := decide_eq_false (by have := hl.2; omega)
  have happ : r.map D.int ++ [.int c] = (r ++ [c]).map .int := by rw [List.map_append]; rfl
  have hd0 : decide (c ∈ r) = false := decide_eq_false hnr
  have hl2 := hl.2
  simp only [aSeq, aAsg, Tg.A, aVar, aC, aOp, aCons, aNil, aCall, aTup, aLst, aLstM, aFrz, aRet, aIfS, aNext, aDrop, aNever, aB, aAnd, aOr, aNot, aAndV, aOrV, aNotV, aIf, aCh, aNeg, aIsN, isN, oI0, oI, oEq, oIn, oIx, oAdd, oDIn, oDGet, oSub, oMod, oFdiv, oPow, oMul, oLt, oLe, oGt, oGe, pLe, pLt, see, items, cLen, cAll, cAny, cSorted, cSortedM, cSum, cMax, cMax2, cMin2, cList, cListM, cTuple, aIsi, aTupRg, aLstRg, oNone, oSome, aSl, aRev, aRevM, aBM, mAppend, mPopAt, mInsert, aDNew, aSetI, aSetD, aPar3, aAsgU, aLenSetS, aTabS, oIsB, mIndex, cMinT, aFor, aWhile, iSeq, seqOf, iRg1, iRg2, iZip, iEnum, aYes, aLc, aLcM, aPar, wipeD, setAll, tyD, eq_self, true_implies, false_implies, implies_true, and_true, true_and, ne_eq, not_false_eq_true, reduceCtorEq, Bool.not_true, Bool.not_false, ix30, ix32, at30, at31, at32, isiD_ii, isiD_bi, isiD_tt, isiD_ll, isiD_il, isiD_bl2, isiD_it, isiD_bt, isiD_st, isiD_sl, isiD_lt, isiD_si, isiD_li, isiD_bb, eqD_int, okD_i, List.set_cons_zero, List.set_cons_succ, List.getElem?_cons_zero, List.getElem?_cons_succ, List.length_cons, List.length_nil, List.map_cons, List.map_nil, Option.bind_some, put_same, Bool.xor_false, Bool.false_xor, hc, fld_row hp, okIn, flat_ints, flatD, inD_int, List.length_map, hne, hd0, happ, Bool.and_true, A_four_with]
  refine ⟨by decide, by omega, r ++ [c], r.length, rfl, by rw [List.length_append, List.length_singleton]; omega, by rw [List.length_append, List.length_singleton]; omega, ?_⟩
  rw [hf]
  exact ⟨rfl, _, rfl, rfl⟩
section
variable {P : Program} {w : World} {K : PySem.W.Frag} {mg : Str → Option Value} {base : Heap}
theorem bad_Laid_lay (T : Tx mg) {CL : Addr} (cl : Cls K CL) (nr : NoAttr K CL "row") (h_is_from : Kn P w K mg base 1 "is_from" ["thing", "low", "high"] A_is_from) (h_four_with : Kn P w K mg base 2 "four_with" ["row", "last"] A_four_with) {f C fI : Addr} {fd : FuncData} (F : Fun K "lay" "Laid.lay" s_Laid_lay f fd) (BT : PySem.BarX.BarTxt K mg C fI) : FnOk P w K mg base (L2N.CX P w) 3 f fd ["self", "card"] (spRaiseB (mo P w K) (Bad_Laid_lay CL) C) := by
  refine fn_badB (N := N_Laid_lay) (b := bt_Laid_lay CL) F sc_Laid_lay (fun ds L r h => by obtain ⟨p, r, c, q, rfl, _⟩ := h; rfl) (fun cdv A outer s H E W tk hr => ?_) (fun ds L r h => rb_Laid_lay h)
  exact (ab_cons (as_if (at_not (at_val (ae_callK h_is_from (hr.mono (by decide)) (by rfl) (aa_cons (ae_var (pv 1)) (aa_cons ae_int (aa_cons (ae_gint (by rfl) T.g_MOST_NUMBER) aa_nil)))))) (as_one as_never) as_nil)
      (ab_cons (as_if (at_in (u65 hr) (ae_var (pv 1)) (ae_fld cl nr (ae_var (pv 0))) (by rfl)) (as_one as_never) as_nil)
      (ab_cons (as_if (at_eq hr.units (ae_len (by rfl) T.b_len (ae_fld cl nr (ae_var (pv 0)))) (ae_gint (by rfl) T.g_MOST_CARDS)) (as_one as_never) as_nil)
      (ab_cons (as_set (i := 2) sc_Laid_lay.nd rfl (by first | exact .inl rfl | exact .inr rfl) (ae_add (ae_fld cl nr (ae_var (pv 0))) (ae_tup (aa_cons (ae_var (pv 1)) aa_nil))))
      (ab_cons (as_set (i := 3) sc_Laid_lay.nd rfl (by first | exact .inl rfl | exact .inr rfl) (ae_callK h_four_with (hr.mono (by decide)) (by rfl) (aa_cons (ae_var (pv 2)) (aa_cons (ae_len (by rfl) T.b_len (ae_fld cl nr (ae_var (pv 0)))) aa_nil))))
      (ab_if (at_notN (ae_var (pv 3))) (ab_raise (k := 1) rfl BT (hr.mono (by decide)) tk (aa_cons (ae_var (pv 3)) aa_nil))))))))
end
theorem kit_ref {K : PySem.W.Frag} {D C : Addr} {b : Bool} (sD : PySem.W.subIn K (.ref D) (.ref D) = some true) (iC : PySem.W.isClsIn K C = true) (tC : PySem.W.typeIn K (.ref C) = some (.type "type")) (sb : PySem.W.subIn K (.ref D) (.ref C) = some b) : PySem.W.kitCls K (.ref D) (.ref C) = some b ∧ PySem.W.kitOne K (.ref D) (.ref C) = some b := by
  have e2 : ((PySem.W.clsIn K C).isSome && PySem.W.typeIn K (.ref C) == some (.type "type")) = true := by
    have h2 : (PySem.W.clsIn K C).isSome = true := iC
    rw [h2, tC] <;> rfl
  have e3 : PySem.W.kitCls K (.ref D) (.ref C) = some b := by
    show (if ((PySem.W.clsIn K C).isSome && PySem.W.typeIn K (.ref C) == some (.type "type")) = true then PySem.W.subIn K (.ref D) (.ref C) else none) = some b
    rw [if_pos e2]
    exact sb
  refine ⟨e3, ?_⟩
  unfold PySem.W.kitOne
  split
  · rename_i q
    have q2 : Value.ref D = Value.ref C := beq_iff_eq.mp q
    cases q2
    rw [sD] at sb
    exact sb
  · exact e3
theorem exm_ref {K : PySem.W.Frag} {D C : Addr} {b : Bool} (bC : PySem.W.subIn K (.ref C) (.type "BaseException") = some true) (h : PySem.W.kitCls K (.ref D) (.ref C) = some b) : PySem.W.exmOne K (.ref D) (.ref C) = some b := by
  have e1 : (PySem.W.subIn K (.ref C) (.type "BaseException") == some true) = true := by rw [bC] <;> rfl
  unfold PySem.W.exmOne
  rw [if_pos e1]
  exact h
theorem kit_val {K : PySem.W.Frag} {D : Addr} {b : Bool} (sb : PySem.W.subIn K (.ref D) (.type "ValueError") = some b) : PySem.W.kitOne K (.ref D) (.type "ValueError") = some b := by
  unfold PySem.W.kitOne
  have h0 : ((Value.ref D == Value.type "ValueError") = true) = False := by simp
  rw [if_neg (by rw [h0]; exact id)]
  show (if PySem.W.kitMeta "ValueError" = true then PySem.W.subIn K (.ref D) (.type "ValueError") else none) = some b
  rw [if_pos (by decide +kernel)]
  exact sb
set_option maxHeartbeats 0 in
theorem all_mk {P0 : Program} {w : World} {K : PySem.W.Frag} {h : Heap} {mg : Str → Option Value} {fa : Addr} (X : K.In h) (G : h.Ns mainGlobals mg) (hfa : mg "law" = some (.ref fa))
    (hTab : ∀ (y : Str) (c P1 : Addr) (d1 : DefRec), (recsOf P0).find? (fun e => e.name == y) = some d1 → PySem.W.tabIn K y = some (c, P1) → PySem.W.CodeHd h c P1 ∧ h.get? P1 = some (PySem.W.tabObj #[])) {d1 : DefRec} (hd1 : (recsOf P0).find? (fun e => e.name == ("law" : Str)) = some d1)
    {CL : Addr}
    (L_g : PySem.W.nsIn K mainGlobals "Laid" = some (some (.ref CL)))
    (L_pg : PySem.W.plainGet K CL Str.empty = true)
    (L_hd : PySem.W.hasDictIn K CL = true)
    (L_po : PySem.W.plainOver K CL = true)
    (L_sa : PySem.W.findIn K (.ref CL) "__setattr__" = some (some (.builtin "object.__setattr__")))
    (L_mk : PySem.W.makesIn K CL = true)
    (L_kc : PySem.W.keepIn K (.ref CL) = true)
    (L_nr : PySem.W.findIn K (.ref CL) "row" = some none)
    {f0 : Addr} {od0 an0 : Option Addr} {sl0 : Array (Option Value)} {oc0 kV0 dc0 pm0 cd0 ct0 : Value}
    (a0 : PySem.W.nsIn K mainGlobals "_law_kin" = some (some (.ref f0)))
    (l0 : K.lookup f0 = some ⟨oc0, od0, .func (PySem.W.fnOf "_law_kin" "_law_kin" (defArgs s__law_kin) (defBody s__law_kin) (defScope s__law_kin) .none kV0 dc0 pm0 an0 cd0 ct0), sl0⟩)
    (c0 : PySem.W.codeIn K cd0 "_law_kin" = true)
    (k0 : PySem.W.keepIn K (.ref f0) = true)
    {f1 : Addr} {od1 an1 : Option Addr} {sl1 : Array (Option Value)} {oc1 kV1 dc1 pm1 cd1 ct1 : Value}
    (a1 : PySem.W.nsIn K mainGlobals "_law_try" = some (some (.ref f1)))
    (l1 : K.lookup f1 = some ⟨oc1, od1, .func (PySem.W.fnOf "_law_try" "_law_try" (defArgs s__law_try) (defBody s__law_try) (defScope s__law_try) .none kV1 dc1 pm1 an1 cd1 ct1), sl1⟩)
    (c1 : PySem.W.codeIn K cd1 "_law_try" = true)
    (k1 : PySem.W.keepIn K (.ref f1) = true)
    {f2 : Addr} {od2 an2 : Option Addr} {sl2 : Array (Option Value)} {oc2 kV2 dc2 pm2 cd2 ct2 : Value}
    (a2 : PySem.W.nsIn K mainGlobals "is_from" = some (some (.ref f2)))
    (l2 : K.lookup f2 = some ⟨oc2, od2, .func (PySem.W.fnOf "is_from" "is_from" (defArgs s_is_from) (defBody s_is_from) (defScope s_is_from) .none kV2 dc2 pm2 an2 cd2 ct2), sl2⟩)
    (c2 : PySem.W.codeIn K cd2 "is_from" = true)
    (k2 : PySem.W.keepIn K (.ref f2) = true)
    {f3 : Addr} {od3 an3 : Option Addr} {sl3 : Array (Option Value)} {oc3 kV3 dc3 pm3 cd3 ct3 : Value}
    (a3 : PySem.W.nsIn K mainGlobals "is_rising" = some (some (.ref f3)))
    (l3 : K.lookup f3 = some ⟨oc3, od3, .func (PySem.W.fnOf "is_rising" "is_rising" (defArgs s_is_rising) (defBody s_is_rising) (defScope s_is_rising) .none kV3 dc3 pm3 an3 cd3 ct3), sl3⟩)
    (c3 : PySem.W.codeIn K cd3 "is_rising" = true)
    (k3 : PySem.W.keepIn K (.ref f3) = true)
    {f4 : Addr} {od4 an4 : Option Addr} {sl4 : Array (Option Value)} {oc4 kV4 dc4 pm4 cd4 ct4 : Value}
    (a4 : PySem.W.nsIn K mainGlobals "is_row" = some (some (.ref f4)))
    (l4 : K.lookup f4 = some ⟨oc4, od4, .func (PySem.W.fnOf "is_row" "is_row" (defArgs s_is_row) (defBody s_is_row) (defScope s_is_row) .none kV4 dc4 pm4 an4 cd4 ct4), sl4⟩)
    (c4 : PySem.W.codeIn K cd4 "is_row" = true)
    (k4 : PySem.W.keepIn K (.ref f4) = true)
    {f5 : Addr} {od5 an5 : Option Addr} {sl5 : Array (Option Value)} {oc5 kV5 dc5 pm5 cd5 ct5 : Value}
    (a5 : PySem.W.nsIn K mainGlobals "need_row" = some (some (.ref f5)))
    (l5 : K.lookup f5 = some ⟨oc5, od5, .func (PySem.W.fnOf "need_row" "need_row" (defArgs s_need_row) (defBody s_need_row) (defScope s_need_row) .none kV5 dc5 pm5 an5 cd5 ct5), sl5⟩)
    (c5 : PySem.W.codeIn K cd5 "need_row" = true)
    (k5 : PySem.W.keepIn K (.ref f5) = true)
    {f6 : Addr} {od6 an6 : Option Addr} {sl6 : Array (Option Value)} {oc6 kV6 dc6 pm6 cd6 ct6 : Value}
    (a6 : PySem.W.nsIn K mainGlobals "next_last" = some (some (.ref f6)))
    (l6 : K.lookup f6 = some ⟨oc6, od6, .func (PySem.W.fnOf "next_last" "next_last" (defArgs s_next_last) (defBody s_next_last) (defScope s_next_last) .none kV6 dc6 pm6 an6 cd6 ct6), sl6⟩)
    (c6 : PySem.W.codeIn K cd6 "next_last" = true)
    (k6 : PySem.W.keepIn K (.ref f6) = true)
    {f7 : Addr} {od7 an7 : Option Addr} {sl7 : Array (Option Value)} {oc7 kV7 dc7 pm7 cd7 ct7 : Value}
    (a7 : PySem.W.nsIn K mainGlobals "begun" = some (some (.ref f7)))
    (l7 : K.lookup f7 = some ⟨oc7, od7, .func (PySem.W.fnOf "begun" "begun" (defArgs s_begun) (defBody s_begun) (defScope s_begun) .none kV7 dc7 pm7 an7 cd7 ct7), sl7⟩)
    (c7 : PySem.W.codeIn K cd7 "begun" = true)
    (k7 : PySem.W.keepIn K (.ref f7) = true)
    {f8 : Addr} {od8 an8 : Option Addr} {sl8 : Array (Option Value)} {oc8 kV8 dc8 pm8 cd8 ct8 : Value}
    (a8 : PySem.W.nsIn K mainGlobals "good_from" = some (some (.ref f8)))
    (l8 : K.lookup f8 = some ⟨oc8, od8, .func (PySem.W.fnOf "good_from" "good_from" (defArgs s_good_from) (defBody s_good_from) (defScope s_good_from) .none kV8 dc8 pm8 an8 cd8 ct8), sl8⟩)
    (c8 : PySem.W.codeIn K cd8 "good_from" = true)
    (k8 : PySem.W.keepIn K (.ref f8) = true)
    {f9 : Addr} {od9 an9 : Option Addr} {sl9 : Array (Option Value)} {oc9 kV9 dc9 pm9 cd9 ct9 : Value}
    (a9 : PySem.W.nsIn K mainGlobals "all_partings" = some (some (.ref f9)))
    (l9 : K.lookup f9 = some ⟨oc9, od9, .func (PySem.W.fnOf "all_partings" "all_partings" (defArgs s_all_partings) (defBody s_all_partings) (defScope s_all_partings) .none kV9 dc9 pm9 an9 cd9 ct9), sl9⟩)
    (c9 : PySem.W.codeIn K cd9 "all_partings" = true)
    (k9 : PySem.W.keepIn K (.ref f9) = true)
    {f10 : Addr} {od10 an10 : Option Addr} {sl10 : Array (Option Value)} {oc10 kV10 dc10 pm10 cd10 ct10 : Value}
    (a10 : PySem.W.nsIn K mainGlobals "is_woven" = some (some (.ref f10)))
    (l10 : K.lookup f10 = some ⟨oc10, od10, .func (PySem.W.fnOf "is_woven" "is_woven" (defArgs s_is_woven) (defBody s_is_woven) (defScope s_is_woven) .none kV10 dc10 pm10 an10 cd10 ct10), sl10⟩)
    (c10 : PySem.W.codeIn K cd10 "is_woven" = true)
    (k10 : PySem.W.keepIn K (.ref f10) = true)
    {f11 : Addr} {od11 an11 : Option Addr} {sl11 : Array (Option Value)} {oc11 kV11 dc11 pm11 cd11 ct11 : Value}
    (a11 : PySem.W.nsIn K mainGlobals "parting" = some (some (.ref f11)))
    (l11 : K.lookup f11 = some ⟨oc11, od11, .func (PySem.W.fnOf "parting" "parting" (defArgs s_parting) (defBody s_parting) (defScope s_parting) .none kV11 dc11 pm11 an11 cd11 ct11), sl11⟩)
    (c11 : PySem.W.codeIn K cd11 "parting" = true)
    (k11 : PySem.W.keepIn K (.ref f11) = true)
    {f12 : Addr} {od12 an12 : Option Addr} {sl12 : Array (Option Value)} {oc12 kV12 dc12 pm12 cd12 ct12 : Value}
    (a12 : PySem.W.nsIn K mainGlobals "how_many" = some (some (.ref f12)))
    (l12 : K.lookup f12 = some ⟨oc12, od12, .func (PySem.W.fnOf "how_many" "how_many" (defArgs s_how_many) (defBody s_how_many) (defScope s_how_many) .none kV12 dc12 pm12 an12 cd12 ct12), sl12⟩)
    (c12 : PySem.W.codeIn K cd12 "how_many" = true)
    (k12 : PySem.W.keepIn K (.ref f12) = true)
    {f13 : Addr} {od13 an13 : Option Addr} {sl13 : Array (Option Value)} {oc13 kV13 dc13 pm13 cd13 ct13 : Value}
    (a13 : PySem.W.nsIn K mainGlobals "sides_of" = some (some (.ref f13)))
    (l13 : K.lookup f13 = some ⟨oc13, od13, .func (PySem.W.fnOf "sides_of" "sides_of" (defArgs s_sides_of) (defBody s_sides_of) (defScope s_sides_of) .none kV13 dc13 pm13 an13 cd13 ct13), sl13⟩)
    (c13 : PySem.W.codeIn K cd13 "sides_of" = true)
    (k13 : PySem.W.keepIn K (.ref f13) = true)
    {f14 : Addr} {od14 an14 : Option Addr} {sl14 : Array (Option Value)} {oc14 kV14 dc14 pm14 cd14 ct14 : Value}
    (a14 : PySem.W.nsIn K mainGlobals "sides" = some (some (.ref f14)))
    (l14 : K.lookup f14 = some ⟨oc14, od14, .func (PySem.W.fnOf "sides" "sides" (defArgs s_sides) (defBody s_sides) (defScope s_sides) .none kV14 dc14 pm14 an14 cd14 ct14), sl14⟩)
    (c14 : PySem.W.codeIn K cd14 "sides" = true)
    (k14 : PySem.W.keepIn K (.ref f14) = true)
    {f15 : Addr} {od15 an15 : Option Addr} {sl15 : Array (Option Value)} {oc15 kV15 dc15 pm15 cd15 ct15 : Value}
    (a15 : PySem.W.nsIn K mainGlobals "barring" = some (some (.ref f15)))
    (l15 : K.lookup f15 = some ⟨oc15, od15, .func (PySem.W.fnOf "barring" "barring" (defArgs s_barring) (defBody s_barring) (defScope s_barring) .none kV15 dc15 pm15 an15 cd15 ct15), sl15⟩)
    (c15 : PySem.W.codeIn K cd15 "barring" = true)
    (k15 : PySem.W.keepIn K (.ref f15) = true)
    {f16 : Addr} {od16 an16 : Option Addr} {sl16 : Array (Option Value)} {oc16 kV16 dc16 pm16 cd16 ct16 : Value}
    (a16 : PySem.W.nsIn K mainGlobals "four_with" = some (some (.ref f16)))
    (l16 : K.lookup f16 = some ⟨oc16, od16, .func (PySem.W.fnOf "four_with" "four_with" (defArgs s_four_with) (defBody s_four_with) (defScope s_four_with) .none kV16 dc16 pm16 an16 cd16 ct16), sl16⟩)
    (c16 : PySem.W.codeIn K cd16 "four_with" = true)
    (k16 : PySem.W.keepIn K (.ref f16) = true)
    {f17 : Addr} {od17 an17 : Option Addr} {sl17 : Array (Option Value)} {oc17 kV17 dc17 pm17 cd17 ct17 : Value}
    (a17 : PySem.W.nsIn K mainGlobals "four" = some (some (.ref f17)))
    (l17 : K.lookup f17 = some ⟨oc17, od17, .func (PySem.W.fnOf "four" "four" (defArgs s_four) (defBody s_four) (defScope s_four) .none kV17 dc17 pm17 an17 cd17 ct17), sl17⟩)
    (c17 : PySem.W.codeIn K cd17 "four" = true)
    (k17 : PySem.W.keepIn K (.ref f17) = true)
    {f18 : Addr} {od18 an18 : Option Addr} {sl18 : Array (Option Value)} {oc18 kV18 dc18 pm18 cd18 ct18 : Value}
    (a18 : PySem.W.nsIn K mainGlobals "bars" = some (some (.ref f18)))
    (l18 : K.lookup f18 = some ⟨oc18, od18, .func (PySem.W.fnOf "bars" "bars" (defArgs s_bars) (defBody s_bars) (defScope s_bars) .none kV18 dc18 pm18 an18 cd18 ct18), sl18⟩)
    (c18 : PySem.W.codeIn K cd18 "bars" = true)
    (k18 : PySem.W.keepIn K (.ref f18) = true)
    {f19 : Addr} {od19 an19 : Option Addr} {sl19 : Array (Option Value)} {oc19 kV19 dc19 pm19 cd19 ct19 : Value}
    (a19 : PySem.W.nsIn K mainGlobals "most_from" = some (some (.ref f19)))
    (l19 : K.lookup f19 = some ⟨oc19, od19, .func (PySem.W.fnOf "most_from" "most_from" (defArgs s_most_from) (defBody s_most_from) (defScope s_most_from) .none kV19 dc19 pm19 an19 cd19 ct19), sl19⟩)
    (c19 : PySem.W.codeIn K cd19 "most_from" = true)
    (k19 : PySem.W.keepIn K (.ref f19) = true)
    {f20 : Addr} {od20 an20 : Option Addr} {sl20 : Array (Option Value)} {oc20 kV20 dc20 pm20 cd20 ct20 : Value}
    (a20 : PySem.W.nsIn K mainGlobals "stays" = some (some (.ref f20)))
    (l20 : K.lookup f20 = some ⟨oc20, od20, .func (PySem.W.fnOf "stays" "stays" (defArgs s_stays) (defBody s_stays) (defScope s_stays) .none kV20 dc20 pm20 an20 cd20 ct20), sl20⟩)
    (c20 : PySem.W.codeIn K cd20 "stays" = true)
    (k20 : PySem.W.keepIn K (.ref f20) = true)
    {f21 : Addr} {od21 an21 : Option Addr} {sl21 : Array (Option Value)} {oc21 kV21 dc21 pm21 cd21 ct21 : Value}
    (a21 : PySem.W.nsIn K mainGlobals "leaving" = some (some (.ref f21)))
    (l21 : K.lookup f21 = some ⟨oc21, od21, .func (PySem.W.fnOf "leaving" "leaving" (defArgs s_leaving) (defBody s_leaving) (defScope s_leaving) .none kV21 dc21 pm21 an21 cd21 ct21), sl21⟩)
    (c21 : PySem.W.codeIn K cd21 "leaving" = true)
    (k21 : PySem.W.keepIn K (.ref f21) = true)
    {f22 : Addr} {od22 an22 : Option Addr} {sl22 : Array (Option Value)} {oc22 kV22 dc22 pm22 cd22 ct22 : Value}
    (a22 : PySem.W.nsIn K mainGlobals "fewest" = some (some (.ref f22)))
    (l22 : K.lookup f22 = some ⟨oc22, od22, .func (PySem.W.fnOf "fewest" "fewest" (defArgs s_fewest) (defBody s_fewest) (defScope s_fewest) .none kV22 dc22 pm22 an22 cd22 ct22), sl22⟩)
    (c22 : PySem.W.codeIn K cd22 "fewest" = true)
    (k22 : PySem.W.keepIn K (.ref f22) = true)
    {f23 : Addr} {od23 an23 : Option Addr} {sl23 : Array (Option Value)} {oc23 kV23 dc23 pm23 cd23 ct23 : Value}
    (a23 : PySem.W.nsIn K mainGlobals "need_worths" = some (some (.ref f23)))
    (l23 : K.lookup f23 = some ⟨oc23, od23, .func (PySem.W.fnOf "need_worths" "need_worths" (defArgs s_need_worths) (defBody s_need_worths) (defScope s_need_worths) .none kV23 dc23 pm23 an23 cd23 ct23), sl23⟩)
    (c23 : PySem.W.codeIn K cd23 "need_worths" = true)
    (k23 : PySem.W.keepIn K (.ref f23) = true)
    {f24 : Addr} {od24 an24 : Option Addr} {sl24 : Array (Option Value)} {oc24 kV24 dc24 pm24 cd24 ct24 : Value}
    (a24 : PySem.W.nsIn K mainGlobals "worth" = some (some (.ref f24)))
    (l24 : K.lookup f24 = some ⟨oc24, od24, .func (PySem.W.fnOf "worth" "worth" (defArgs s_worth) (defBody s_worth) (defScope s_worth) .none kV24 dc24 pm24 an24 cd24 ct24), sl24⟩)
    (c24 : PySem.W.codeIn K cd24 "worth" = true)
    (k24 : PySem.W.keepIn K (.ref f24) = true)
    {f25 : Addr} {od25 an25 : Option Addr} {sl25 : Array (Option Value)} {oc25 kV25 dc25 pm25 cd25 ct25 : Value}
    (a25 : PySem.W.nsIn K mainGlobals "seams" = some (some (.ref f25)))
    (l25 : K.lookup f25 = some ⟨oc25, od25, .func (PySem.W.fnOf "seams" "seams" (defArgs s_seams) (defBody s_seams) (defScope s_seams) .none kV25 dc25 pm25 an25 cd25 ct25), sl25⟩)
    (c25 : PySem.W.codeIn K cd25 "seams" = true)
    (k25 : PySem.W.keepIn K (.ref f25) = true)
    {f26 : Addr} {od26 an26 : Option Addr} {sl26 : Array (Option Value)} {oc26 kV26 dc26 pm26 cd26 ct26 : Value}
    (a26 : PySem.W.nsIn K mainGlobals "is_hidden" = some (some (.ref f26)))
    (l26 : K.lookup f26 = some ⟨oc26, od26, .func (PySem.W.fnOf "is_hidden" "is_hidden" (defArgs s_is_hidden) (defBody s_is_hidden) (defScope s_is_hidden) .none kV26 dc26 pm26 an26 cd26 ct26), sl26⟩)
    (c26 : PySem.W.codeIn K cd26 "is_hidden" = true)
    (k26 : PySem.W.keepIn K (.ref f26) = true)
    {f27 : Addr} {od27 an27 : Option Addr} {sl27 : Array (Option Value)} {oc27 kV27 dc27 pm27 cd27 ct27 : Value}
    (a27 : PySem.W.nsIn K mainGlobals "filled" = some (some (.ref f27)))
    (l27 : K.lookup f27 = some ⟨oc27, od27, .func (PySem.W.fnOf "filled" "filled" (defArgs s_filled) (defBody s_filled) (defScope s_filled) .none kV27 dc27 pm27 an27 cd27 ct27), sl27⟩)
    (c27 : PySem.W.codeIn K cd27 "filled" = true)
    (k27 : PySem.W.keepIn K (.ref f27) = true)
    {f28 : Addr} {od28 an28 : Option Addr} {sl28 : Array (Option Value)} {oc28 kV28 dc28 pm28 cd28 ct28 : Value}
    (a28 : PySem.W.findIn K (.ref CL) "__init__" = some (some (.ref f28)))
    (i28 : PySem.W.isFn K (.ref f28) = true)
    (l28 : K.lookup f28 = some ⟨oc28, od28, .func (PySem.W.fnOf "__init__" "Laid.__init__" (defArgs s_Laid_init) (defBody s_Laid_init) (defScope s_Laid_init) .none kV28 dc28 pm28 an28 cd28 ct28), sl28⟩)
    (c28 : PySem.W.codeIn K cd28 "Laid.__init__" = true)
    (k28 : PySem.W.keepIn K (.ref f28) = true)
    {f29 : Addr} {od29 an29 : Option Addr} {sl29 : Array (Option Value)} {oc29 kV29 dc29 pm29 cd29 ct29 : Value}
    (a29 : PySem.W.findIn K (.ref CL) "lay" = some (some (.ref f29)))
    (i29 : PySem.W.isFn K (.ref f29) = true)
    (l29 : K.lookup f29 = some ⟨oc29, od29, .func (PySem.W.fnOf "lay" "Laid.lay" (defArgs s_Laid_lay) (defBody s_Laid_lay) (defScope s_Laid_lay) .none kV29 dc29 pm29 an29 cd29 ct29), sl29⟩)
    (c29 : PySem.W.codeIn K cd29 "Laid.lay" = true)
    (k29 : PySem.W.keepIn K (.ref f29) = true)
    {f30 : Addr} {od30 an30 : Option Addr} {sl30 : Array (Option Value)} {oc30 kV30 dc30 pm30 cd30 ct30 : Value}
    (a30 : PySem.W.findIn K (.ref CL) "can_be_laid" = some (some (.ref f30)))
    (i30 : PySem.W.isFn K (.ref f30) = true)
    (l30 : K.lookup f30 = some ⟨oc30, od30, .func (PySem.W.fnOf "can_be_laid" "Laid.can_be_laid" (defArgs s_Laid_can_be_laid) (defBody s_Laid_can_be_laid) (defScope s_Laid_can_be_laid) .none kV30 dc30 pm30 an30 cd30 ct30), sl30⟩)
    (c30 : PySem.W.codeIn K cd30 "Laid.can_be_laid" = true)
    (k30 : PySem.W.keepIn K (.ref f30) = true)
    {f31 : Addr} {od31 an31 : Option Addr} {sl31 : Array (Option Value)} {oc31 kV31 dc31 pm31 cd31 ct31 : Value}
    (a31 : PySem.W.nsIn K mainGlobals "_law_deck" = some (some (.ref f31)))
    (l31 : K.lookup f31 = some ⟨oc31, od31, .func (PySem.W.fnOf "_law_deck" "_law_deck" (defArgs s__law_deck) (defBody s__law_deck) (defScope s__law_deck) .none kV31 dc31 pm31 an31 cd31 ct31), sl31⟩)
    (c31 : PySem.W.codeIn K cd31 "_law_deck" = true)
    (k31 : PySem.W.keepIn K (.ref f31) = true)
    {f32 : Addr} {od32 an32 : Option Addr} {sl32 : Array (Option Value)} {oc32 kV32 dc32 pm32 cd32 ct32 : Value}
    (a32 : PySem.W.nsIn K mainGlobals "_law_pick" = some (some (.ref f32)))
    (l32 : K.lookup f32 = some ⟨oc32, od32, .func (PySem.W.fnOf "_law_pick" "_law_pick" (defArgs s__law_pick) (defBody s__law_pick) (defScope s__law_pick) .none kV32 dc32 pm32 an32 cd32 ct32), sl32⟩)
    (c32 : PySem.W.codeIn K cd32 "_law_pick" = true)
    (k32 : PySem.W.keepIn K (.ref f32) = true)
    {f33 cc PT : Addr} {od33 an33 ol : Option Addr} {sl33 sll : Array (Option Value)} {oc33 kV33 dc33 pm33 ct33 ocl : Value} {vs : Array Value}
    (a33 : PySem.W.nsIn K mainGlobals "law" = some (some (.ref f33)))
    (l33 : K.lookup f33 = some ⟨oc33, od33, .func (PySem.W.fnOf "law" "law" (defArgs s_law) (defBody s_law) (defScope s_law) .none kV33 dc33 pm33 an33 (.ref cc) ct33), sl33⟩)
    (c33 : PySem.W.codeIn K (.ref cc) "law" = true)
    (k33 : PySem.W.keepIn K (.ref f33) = true)
    (lc : K.lookup cc = some ⟨ocl, ol, .fields vs, sll⟩)
    (vP : (vs[11]? : Option Value) = some (.ref PT))
    (nP : K.lookup PT = none)
    (z0 : PySem.W.nsIn K mainGlobals "all" = some none)
    (z1 : PySem.W.nsIn K mainGlobals "any" = some none)
    (z2 : PySem.W.nsIn K mainGlobals "bool" = some none)
    (z3 : PySem.W.nsIn K mainGlobals "enumerate" = some none)
    (z4 : PySem.W.nsIn K mainGlobals "int" = some none)
    (z5 : PySem.W.nsIn K mainGlobals "isinstance" = some none)
    (z6 : PySem.W.nsIn K mainGlobals "len" = some none)
    (z7 : PySem.W.nsIn K mainGlobals "list" = some none)
    (z8 : PySem.W.nsIn K mainGlobals "max" = some none)
    (z9 : PySem.W.nsIn K mainGlobals "min" = some none)
    (z10 : PySem.W.nsIn K mainGlobals "range" = some none)
    (z11 : PySem.W.nsIn K mainGlobals "set" = some none)
    (z12 : PySem.W.nsIn K mainGlobals "sorted" = some none)
    (z13 : PySem.W.nsIn K mainGlobals "tuple" = some none)
    (z14 : PySem.W.nsIn K mainGlobals "zip" = some none)
    (y_z0 : PySem.W.nsIn K mainGlobals "zip" = some none)
    (y_z1 : PySem.W.nsIn K mainGlobals "isinstance" = some none)
    (y_z2 : PySem.W.nsIn K mainGlobals "ValueError" = some none)
    {t0 : Nat}
    (y0 : PySem.W.nsIn K mainGlobals "MOST_CARDS" = some (some (.int 40 t0)))
    {t1 : Nat}
    (y1 : PySem.W.nsIn K mainGlobals "MOST_NUMBER" = some (some (.int 1000000000 t1)))
    {t2 : Nat}
    (y2 : PySem.W.nsIn K mainGlobals "MOST_WORTH" = some (some (.int 1000000000 t2)))
    {t3 : Nat}
    (y3 : PySem.W.nsIn K mainGlobals "MOST_HIDDEN" = some (some (.int 7 t3)))
    {C_RowError C_NoRow C_NoWorths C_NoNumber C_NoHidden C_NoCard C_Taken C_Full C_NoneLeft C_Barred : Addr}
    (n_RowError : PySem.W.nsIn K mainGlobals "RowError" = some (some (.ref C_RowError)))
    (i_RowError : PySem.W.isClsIn K C_RowError = true)
    (t_RowError : PySem.W.typeIn K (.ref C_RowError) = some (.type "type"))
    (b_RowError : PySem.W.subIn K (.ref C_RowError) (.type "BaseException") = some true)
    (n_NoRow : PySem.W.nsIn K mainGlobals "NoRow" = some (some (.ref C_NoRow)))
    (i_NoRow : PySem.W.isClsIn K C_NoRow = true)
    (t_NoRow : PySem.W.typeIn K (.ref C_NoRow) = some (.type "type"))
    (b_NoRow : PySem.W.subIn K (.ref C_NoRow) (.type "BaseException") = some true)
    (n_NoWorths : PySem.W.nsIn K mainGlobals "NoWorths" = some (some (.ref C_NoWorths)))
    (i_NoWorths : PySem.W.isClsIn K C_NoWorths = true)
    (t_NoWorths : PySem.W.typeIn K (.ref C_NoWorths) = some (.type "type"))
    (b_NoWorths : PySem.W.subIn K (.ref C_NoWorths) (.type "BaseException") = some true)
    (n_NoNumber : PySem.W.nsIn K mainGlobals "NoNumber" = some (some (.ref C_NoNumber)))
    (i_NoNumber : PySem.W.isClsIn K C_NoNumber = true)
    (t_NoNumber : PySem.W.typeIn K (.ref C_NoNumber) = some (.type "type"))
    (b_NoNumber : PySem.W.subIn K (.ref C_NoNumber) (.type "BaseException") = some true)
    (n_NoHidden : PySem.W.nsIn K mainGlobals "NoHidden" = some (some (.ref C_NoHidden)))
    (i_NoHidden : PySem.W.isClsIn K C_NoHidden = true)
    (t_NoHidden : PySem.W.typeIn K (.ref C_NoHidden) = some (.type "type"))
    (b_NoHidden : PySem.W.subIn K (.ref C_NoHidden) (.type "BaseException") = some true)
    (n_NoCard : PySem.W.nsIn K mainGlobals "NoCard" = some (some (.ref C_NoCard)))
    (i_NoCard : PySem.W.isClsIn K C_NoCard = true)
    (t_NoCard : PySem.W.typeIn K (.ref C_NoCard) = some (.type "type"))
    (b_NoCard : PySem.W.subIn K (.ref C_NoCard) (.type "BaseException") = some true)
    (n_Taken : PySem.W.nsIn K mainGlobals "Taken" = some (some (.ref C_Taken)))
    (i_Taken : PySem.W.isClsIn K C_Taken = true)
    (t_Taken : PySem.W.typeIn K (.ref C_Taken) = some (.type "type"))
    (b_Taken : PySem.W.subIn K (.ref C_Taken) (.type "BaseException") = some true)
    (n_Full : PySem.W.nsIn K mainGlobals "Full" = some (some (.ref C_Full)))
    (i_Full : PySem.W.isClsIn K C_Full = true)
    (t_Full : PySem.W.typeIn K (.ref C_Full) = some (.type "type"))
    (b_Full : PySem.W.subIn K (.ref C_Full) (.type "BaseException") = some true)
    (n_NoneLeft : PySem.W.nsIn K mainGlobals "NoneLeft" = some (some (.ref C_NoneLeft)))
    (i_NoneLeft : PySem.W.isClsIn K C_NoneLeft = true)
    (t_NoneLeft : PySem.W.typeIn K (.ref C_NoneLeft) = some (.type "type"))
    (b_NoneLeft : PySem.W.subIn K (.ref C_NoneLeft) (.type "BaseException") = some true)
    (n_Barred : PySem.W.nsIn K mainGlobals "Barred" = some (some (.ref C_Barred)))
    (i_Barred : PySem.W.isClsIn K C_Barred = true)
    (t_Barred : PySem.W.typeIn K (.ref C_Barred) = some (.type "type"))
    (b_Barred : PySem.W.subIn K (.ref C_Barred) (.type "BaseException") = some true)
    {nm qq : Str} {NN : Addr} {dd0 : Option Addr} {bs sub : List Value} {sn : List Str} {ab : Bool} {col : Option Bool} {m0 m1 m2 m3 m5 : Option Value}
    (B_cls : K.lookup C_Barred = some (excClassObj nm qq C_Barred NN bs [.ref C_RowError, .type "ValueError", .type "Exception", .type "BaseException", .type "object"] true sn sub ab col dd0 m0 m1 m2 m3 m5 "ValueError.__new__"))
    (B_sa : PySem.W.findIn K (.ref C_Barred) "__setattr__" = some (some (.builtin "object.__setattr__")))
    (B_no : PySem.W.findIn K (.ref C_Barred) "four" = some none)
    {fI : Addr} {odI anI : Option Addr} {slI : Array (Option Value)} {ocI dcI pmI cdI ctI : Value} {p1 p2 q1 q2 q3 q4 : Pos}
    (B_i : PySem.W.findIn K (.ref C_Barred) "__init__" = some (some (.ref fI)))
    (B_t : PySem.W.typeIn K (.ref fI) = some (.type "function"))
    (B_l : K.lookup fI = some ⟨ocI, odI, .func (PySem.W.fnOf "__init__" "Barred.__init__" (PySem.BarX.iA p1 p2) (PySem.BarX.iB q1 q2 q3 q4) PySem.BarX.iS .none .none dcI pmI anI cdI ctI), slI⟩)
    (B_c : PySem.W.codeIn K cdI "Barred.__init__" = true)
    (xg_Barred : PySem.W.findIn K (.ref C_Barred) "__getattribute__" = some (some (.builtin "BaseException.__getattribute__")))
    (xk_Barred : PySem.W.findIn K (.ref C_Barred) "__getattr__" = some none)
    (xd_Barred : PySem.W.hasDictIn K C_Barred = true)
    (xa_Barred : PySem.W.findIn K (.ref C_Barred) "__class__" = some (some (.builtin "object.__class__")))
    (xn_Barred : PySem.W.specialIn K (.builtin "object.__class__") "__get__" = some (some (.builtin "getset_descriptor.__get__")))
    (xt_Barred : PySem.W.takesIn K (.builtin "object.__class__") = some true)
    (xm_Barred : PySem.W.mroIn K C_Barred (.type "object") = some true)
    (xp_Barred : PySem.W.keepIn K (.ref C_Barred) = true)
    (xv_Barred : PySem.W.subIn K (.ref C_Barred) (.type "ValueError") = some true)
    (s_Barred_RowError : PySem.W.subIn K (.ref C_Barred) (.ref C_RowError) = some true)
    (s_Barred_NoRow : PySem.W.subIn K (.ref C_Barred) (.ref C_NoRow) = some false)
    (s_Barred_NoWorths : PySem.W.subIn K (.ref C_Barred) (.ref C_NoWorths) = some false)
    (s_Barred_NoNumber : PySem.W.subIn K (.ref C_Barred) (.ref C_NoNumber) = some false)
    (s_Barred_NoHidden : PySem.W.subIn K (.ref C_Barred) (.ref C_NoHidden) = some false)
    (s_Barred_NoCard : PySem.W.subIn K (.ref C_Barred) (.ref C_NoCard) = some false)
    (s_Barred_Taken : PySem.W.subIn K (.ref C_Barred) (.ref C_Taken) = some false)
    (s_Barred_Full : PySem.W.subIn K (.ref C_Barred) (.ref C_Full) = some false)
    (s_Barred_NoneLeft : PySem.W.subIn K (.ref C_Barred) (.ref C_NoneLeft) = some false)
    (s_Barred_Barred : PySem.W.subIn K (.ref C_Barred) (.ref C_Barred) = some true)
    : LamX.LawAtS PySem.Challenge.rw_wovenway_k13_whole_small_rows_by_words w K CX0 46 63 "script" mg fa h := by
  have e := hfa.symm.trans (PySem.W.mg_of X G a33)
  cases e
  have T : Tx mg := ⟨PySem.W.mg_none_of X G z0, PySem.W.mg_none_of X G z1, PySem.W.mg_none_of X G z2, PySem.W.mg_none_of X G z3, PySem.W.mg_none_of X G z4, PySem.W.mg_none_of X G z5, PySem.W.mg_none_of X G z6, PySem.W.mg_none_of X G z7, PySem.W.mg_none_of X G z8, PySem.W.mg_none_of X G z9, PySem.W.mg_none_of X G z10, PySem.W.mg_none_of X G z11, PySem.W.mg_none_of X G z12, PySem.W.mg_none_of X G z13, PySem.W.mg_none_of X G z14, ⟨_, PySem.W.mg_of X G y0⟩, ⟨_, PySem.W.mg_of X G y1⟩, ⟨_, PySem.W.mg_of X G y2⟩, ⟨_, PySem.W.mg_of X G y3⟩⟩
  have tb : PySem.W.tabIn K "law" = some (cc, PT) := by
    unfold PySem.W.tabIn
    rw [a33]
    simp only [l33, PySem.W.fnOf, lc, vP]
  obtain ⟨hCd, hPT⟩ := hTab _ _ _ _ hd1 tb
  have kin_Barred : KinT K mg C_Barred false false false false false false false false true true :=
    { ec := ⟨xg_Barred, xk_Barred, b_Barred, xd_Barred, xa_Barred, xn_Barred, xt_Barred, xm_Barred⟩, zip := PySem.W.mg_none_of X G y_z0, isi := PySem.W.mg_none_of X G y_z1, val := PySem.W.mg_none_of X G y_z2, c10 := kit_val xv_Barred,
      c1 := ⟨C_NoRow, PySem.W.mg_of X G n_NoRow, (kit_ref s_Barred_Barred i_NoRow t_NoRow s_Barred_NoRow).2⟩,
      c2 := ⟨C_NoWorths, PySem.W.mg_of X G n_NoWorths, (kit_ref s_Barred_Barred i_NoWorths t_NoWorths s_Barred_NoWorths).2⟩,
      c3 := ⟨C_NoNumber, PySem.W.mg_of X G n_NoNumber, (kit_ref s_Barred_Barred i_NoNumber t_NoNumber s_Barred_NoNumber).2⟩,
      c4 := ⟨C_NoHidden, PySem.W.mg_of X G n_NoHidden, (kit_ref s_Barred_Barred i_NoHidden t_NoHidden s_Barred_NoHidden).2⟩,
      c5 := ⟨C_NoCard, PySem.W.mg_of X G n_NoCard, (kit_ref s_Barred_Barred i_NoCard t_NoCard s_Barred_NoCard).2⟩,
      c6 := ⟨C_Taken, PySem.W.mg_of X G n_Taken, (kit_ref s_Barred_Barred i_Taken t_Taken s_Barred_Taken).2⟩,
      c7 := ⟨C_Full, PySem.W.mg_of X G n_Full, (kit_ref s_Barred_Barred i_Full t_Full s_Barred_Full).2⟩,
      c8 := ⟨C_NoneLeft, PySem.W.mg_of X G n_NoneLeft, (kit_ref s_Barred_Barred i_NoneLeft t_NoneLeft s_Barred_NoneLeft).2⟩,
      c9 := ⟨C_Barred, PySem.W.mg_of X G n_Barred, (kit_ref s_Barred_Barred i_Barred t_Barred s_Barred_Barred).2⟩ }
  have teB := exm_ref b_Barred (kit_ref s_Barred_Barred i_Barred t_Barred s_Barred_Barred).1
  have try_B : TryB K mg C_Barred false false false false false false false false true true :=
    { kin := kin_Barred, bar := ⟨PySem.W.mg_of X G n_Barred, teB⟩, row := ⟨C_RowError, PySem.W.mg_of X G n_RowError⟩, xf := ⟨xg_Barred, xk_Barred, b_Barred, xd_Barred⟩, no := B_no }
  have BT : PySem.BarX.BarTxt K mg C_Barred fI :=
    { gC := PySem.W.mg_of X G n_Barred, cls := ⟨nm, qq, NN, bs, _, sn, sub, ab, col, dd0, m0, m1, m2, m3, m5, B_cls, by rfl⟩, sa := B_sa, ga := xg_Barred, gg := xk_Barred, noN := B_no, iC := B_i, tC := B_t, kC := xp_Barred, exC := b_Barred, tyC := t_Barred, hdC := xd_Barred, te := teB, fn := ⟨_, _, _, _, _, _, _, _, _, _, _, _, _, _, B_l, B_c⟩ }
  have cl : Cls K CL := ⟨L_pg, L_hd, L_po, L_sa⟩
  have nr : NoAttr K CL "row" := L_nr
  have F0 := fun_mk (st := s__law_kin) l0 c0 k0
  have g0 := PySem.W.mg_of X G a0
  have b0 := F0.binds (ps := ["e"]) fun _ _ _ _ _ _ us hl => match us, hl with | [_], _ => rfl
  have F1 := fun_mk (st := s__law_try) l1 c1 k1
  have g1 := PySem.W.mg_of X G a1
  have b1 := F1.binds (ps := ["door"]) fun _ _ _ _ _ _ us hl => match us, hl with | [_], _ => rfl
  have F2 := fun_mk (st := s_is_from) l2 c2 k2
  have g2 := PySem.W.mg_of X G a2
  have b2 := F2.binds (ps := ["thing", "low", "high"]) fun _ _ _ _ _ _ us hl => match us, hl with | [_, _, _], _ => rfl
  have h_is_from : ∀ base : Heap, Kn PySem.Challenge.rw_wovenway_k13_whole_small_rows_by_words.prog w K mg base 1 "is_from" ["thing", "low", "high"] A_is_from := fun base => knOf F2 g2 b2 sc_is_from (fun ds L Kk h => by first | (obtain ⟨rfl, _⟩ := h; rfl) | (obtain ⟨_, rfl, _⟩ := h; rfl) | (obtain ⟨_, _, rfl, _⟩ := h; rfl) | (obtain ⟨_, _, _, rfl, _⟩ := h; rfl) | (obtain ⟨_, _, _, _, rfl, _⟩ := h; rfl) | (obtain ⟨_, _, _, _, _, rfl, _⟩ := h; rfl) | (obtain ⟨_, _, _, _, _, _, rfl, _⟩ := h; rfl) | (obtain ⟨_, _, _, _, _, _, _, rfl, _⟩ := h; rfl) | (obtain ⟨_, _, _, _, _, _, _, _, rfl, _⟩ := h; rfl)) (fun cdv Ar outer s H E hr => d_is_from T  cdv Ar outer s H E hr) (fun ds L Kk h => r_is_from h)
  have F3 := fun_mk (st := s_is_rising) l3 c3 k3
  have g3 := PySem.W.mg_of X G a3
  have b3 := F3.binds (ps := ["things"]) fun _ _ _ _ _ _ us hl => match us, hl with | [_], _ => rfl
  have h_is_rising : ∀ base : Heap, Kn PySem.Challenge.rw_wovenway_k13_whole_small_rows_by_words.prog w K mg base 1 "is_rising" ["things"] A_is_rising := fun base => knOf F3 g3 b3 sc_is_rising (fun ds L Kk h => by first | (obtain ⟨rfl, _⟩ := h; rfl) | (obtain ⟨_, rfl, _⟩ := h; rfl) | (obtain ⟨_, _, rfl, _⟩ := h; rfl) | (obtain ⟨_, _, _, rfl, _⟩ := h; rfl) | (obtain ⟨_, _, _, _, rfl, _⟩ := h; rfl) | (obtain ⟨_, _, _, _, _, rfl, _⟩ := h; rfl) | (obtain ⟨_, _, _, _, _, _, rfl, _⟩ := h; rfl) | (obtain ⟨_, _, _, _, _, _, _, rfl, _⟩ := h; rfl) | (obtain ⟨_, _, _, _, _, _, _, _, rfl, _⟩ := h; rfl)) (fun cdv Ar outer s H E hr => d_is_rising T  cdv Ar outer s H E hr) (fun ds L Kk h => r_is_rising h)
  have F4 := fun_mk (st := s_is_row) l4 c4 k4
  have g4 := PySem.W.mg_of X G a4
  have b4 := F4.binds (ps := ["thing"]) fun _ _ _ _ _ _ us hl => match us, hl with | [_], _ => rfl
  have h_is_row : ∀ base : Heap, Kn PySem.Challenge.rw_wovenway_k13_whole_small_rows_by_words.prog w K mg base 2 "is_row" ["thing"] A_is_row := fun base => knOf F4 g4 b4 sc_is_row (fun ds L Kk h => by first | (obtain ⟨rfl, _⟩ := h; rfl) | (obtain ⟨_, rfl, _⟩ := h; rfl) | (obtain ⟨_, _, rfl, _⟩ := h; rfl) | (obtain ⟨_, _, _, rfl, _⟩ := h; rfl) | (obtain ⟨_, _, _, _, rfl, _⟩ := h; rfl) | (obtain ⟨_, _, _, _, _, rfl, _⟩ := h; rfl) | (obtain ⟨_, _, _, _, _, _, rfl, _⟩ := h; rfl) | (obtain ⟨_, _, _, _, _, _, _, rfl, _⟩ := h; rfl) | (obtain ⟨_, _, _, _, _, _, _, _, rfl, _⟩ := h; rfl)) (fun cdv Ar outer s H E hr => d_is_row T (h_is_from base) (h_is_rising base) cdv Ar outer s H E hr) (fun ds L Kk h => r_is_row h)
  have F5 := fun_mk (st := s_need_row) l5 c5 k5
  have g5 := PySem.W.mg_of X G a5
  have b5 := F5.binds (ps := ["row"]) fun _ _ _ _ _ _ us hl => match us, hl with | [_], _ => rfl
  have h_need_row : ∀ base : Heap, Kn PySem.Challenge.rw_wovenway_k13_whole_small_rows_by_words.prog w K mg base 3 "need_row" ["row"] A_need_row := fun base => knOf F5 g5 b5 sc_need_row (fun ds L Kk h => by first | (obtain ⟨rfl, _⟩ := h; rfl) | (obtain ⟨_, rfl, _⟩ := h; rfl) | (obtain ⟨_, _, rfl, _⟩ := h; rfl) | (obtain ⟨_, _, _, rfl, _⟩ := h; rfl) | (obtain ⟨_, _, _, _, rfl, _⟩ := h; rfl) | (obtain ⟨_, _, _, _, _, rfl, _⟩ := h; rfl) | (obtain ⟨_, _, _, _, _, _, rfl, _⟩ := h; rfl) | (obtain ⟨_, _, _, _, _, _, _, rfl, _⟩ := h; rfl) | (obtain ⟨_, _, _, _, _, _, _, _, rfl, _⟩ := h; rfl)) (fun cdv Ar outer s H E hr => d_need_row T (h_is_row base) cdv Ar outer s H E hr) (fun ds L Kk h => r_need_row h)
  have F6 := fun_mk (st := s_next_last) l6 c6 k6
  have g6 := PySem.W.mg_of X G a6
  have b6 := F6.binds (ps := ["last", "card", "side"]) fun _ _ _ _ _ _ us hl => match us, hl with | [_, _, _], _ => rfl
  have h_next_last : ∀ base : Heap, Kn PySem.Challenge.rw_wovenway_k13_whole_small_rows_by_words.prog w K mg base 1 "next_last" ["last", "card", "side"] A_next_last := fun base => knOf F6 g6 b6 sc_next_last (fun ds L Kk h => by first | (obtain ⟨rfl, _⟩ := h; rfl) | (obtain ⟨_, rfl, _⟩ := h; rfl) | (obtain ⟨_, _, rfl, _⟩ := h; rfl) | (obtain ⟨_, _, _, rfl, _⟩ := h; rfl) | (obtain ⟨_, _, _, _, rfl, _⟩ := h; rfl) | (obtain ⟨_, _, _, _, _, rfl, _⟩ := h; rfl) | (obtain ⟨_, _, _, _, _, _, rfl, _⟩ := h; rfl) | (obtain ⟨_, _, _, _, _, _, _, rfl, _⟩ := h; rfl) | (obtain ⟨_, _, _, _, _, _, _, _, rfl, _⟩ := h; rfl)) (fun cdv Ar outer s H E hr => d_next_last T  cdv Ar outer s H E hr) (fun ds L Kk h => r_next_last h)
  have F7 := fun_mk (st := s_begun) l7 c7 k7
  have g7 := PySem.W.mg_of X G a7
  have b7 := F7.binds (ps := []) fun _ _ _ _ _ _ us hl => match us, hl with | [], _ => rfl
  have h_begun : ∀ base : Heap, Kn PySem.Challenge.rw_wovenway_k13_whole_small_rows_by_words.prog w K mg base 1 "begun" [] A_begun := fun base => knOf F7 g7 b7 sc_begun (fun ds L Kk h => by first | (obtain ⟨rfl, _⟩ := h; rfl) | (obtain ⟨_, rfl, _⟩ := h; rfl) | (obtain ⟨_, _, rfl, _⟩ := h; rfl) | (obtain ⟨_, _, _, rfl, _⟩ := h; rfl) | (obtain ⟨_, _, _, _, rfl, _⟩ := h; rfl) | (obtain ⟨_, _, _, _, _, rfl, _⟩ := h; rfl) | (obtain ⟨_, _, _, _, _, _, rfl, _⟩ := h; rfl) | (obtain ⟨_, _, _, _, _, _, _, rfl, _⟩ := h; rfl) | (obtain ⟨_, _, _, _, _, _, _, _, rfl, _⟩ := h; rfl)) (fun cdv Ar outer s H E hr => d_begun T  cdv Ar outer s H E hr) (fun ds L Kk h => r_begun h)
  have F8 := fun_mk (st := s_good_from) l8 c8 k8
  have g8 := PySem.W.mg_of X G a8
  have b8 := F8.binds (ps := ["row", "at", "last", "known"]) fun _ _ _ _ _ _ us hl => match us, hl with | [_, _, _, _], _ => rfl
  have h_good_from : ∀ base : Heap, Kn PySem.Challenge.rw_wovenway_k13_whole_small_rows_by_words.prog w K mg base 42 "good_from" ["row", "at", "last", "known"] A_good_from := fun base => knRec (kk := 1) (Af := A_gf) (Ap := A_gfp) F8 g8 b8 rfl (fun _ => rfl) (fun n k hk hrec => knOf F8 g8 b8 sc_good_from (fun ds L Kk h => by first | (obtain ⟨rfl, _⟩ := h; rfl) | (obtain ⟨_, rfl, _⟩ := h; rfl) | (obtain ⟨_, _, rfl, _⟩ := h; rfl) | (obtain ⟨_, _, _, rfl, _⟩ := h; rfl) | (obtain ⟨_, _, _, _, rfl, _⟩ := h; rfl) | (obtain ⟨_, _, _, _, _, rfl, _⟩ := h; rfl) | (obtain ⟨_, _, _, _, _, _, rfl, _⟩ := h; rfl) | (obtain ⟨_, _, _, _, _, _, _, rfl, _⟩ := h; rfl) | (obtain ⟨_, _, _, _, _, _, _, _, rfl, _⟩ := h; rfl)) (fun cdv Ar outer s H E hr => d_good_from T (h_next_last base) hrec hk cdv Ar outer s H E hr) (fun ds L Kk h => r_good_from n h)) 40
  have F9 := fun_mk (st := s_all_partings) l9 c9 k9
  have g9 := PySem.W.mg_of X G a9
  have b9 := F9.binds (ps := ["row"]) fun _ _ _ _ _ _ us hl => match us, hl with | [_], _ => rfl
  have h_all_partings : ∀ base : Heap, Kn PySem.Challenge.rw_wovenway_k13_whole_small_rows_by_words.prog w K mg base 43 "all_partings" ["row"] A_all_partings := fun base => knOf F9 g9 b9 sc_all_partings (fun ds L Kk h => by first | (obtain ⟨rfl, _⟩ := h; rfl) | (obtain ⟨_, rfl, _⟩ := h; rfl) | (obtain ⟨_, _, rfl, _⟩ := h; rfl) | (obtain ⟨_, _, _, rfl, _⟩ := h; rfl) | (obtain ⟨_, _, _, _, rfl, _⟩ := h; rfl) | (obtain ⟨_, _, _, _, _, rfl, _⟩ := h; rfl) | (obtain ⟨_, _, _, _, _, _, rfl, _⟩ := h; rfl) | (obtain ⟨_, _, _, _, _, _, _, rfl, _⟩ := h; rfl) | (obtain ⟨_, _, _, _, _, _, _, _, rfl, _⟩ := h; rfl)) (fun cdv Ar outer s H E hr => d_all_partings T (h_begun base) (h_good_from base) (h_next_last base) cdv Ar outer s H E hr) (fun ds L Kk h => r_all_partings h)
  have F10 := fun_mk (st := s_is_woven) l10 c10 k10
  have g10 := PySem.W.mg_of X G a10
  have b10 := F10.binds (ps := ["row"]) fun _ _ _ _ _ _ us hl => match us, hl with | [_], _ => rfl
  have h_is_woven : ∀ base : Heap, Kn PySem.Challenge.rw_wovenway_k13_whole_small_rows_by_words.prog w K mg base 43 "is_woven" ["row"] A_is_woven := fun base => knOf F10 g10 b10 sc_is_woven (fun ds L Kk h => by first | (obtain ⟨rfl, _⟩ := h; rfl) | (obtain ⟨_, rfl, _⟩ := h; rfl) | (obtain ⟨_, _, rfl, _⟩ := h; rfl) | (obtain ⟨_, _, _, rfl, _⟩ := h; rfl) | (obtain ⟨_, _, _, _, rfl, _⟩ := h; rfl) | (obtain ⟨_, _, _, _, _, rfl, _⟩ := h; rfl) | (obtain ⟨_, _, _, _, _, _, rfl, _⟩ := h; rfl) | (obtain ⟨_, _, _, _, _, _, _, rfl, _⟩ := h; rfl) | (obtain ⟨_, _, _, _, _, _, _, _, rfl, _⟩ := h; rfl)) (fun cdv Ar outer s H E hr => d_is_woven T (h_begun base) (h_good_from base) cdv Ar outer s H E hr) (fun ds L Kk h => r_is_woven h)
  have F11 := fun_mk (st := s_parting) l11 c11 k11
  have g11 := PySem.W.mg_of X G a11
  have b11 := F11.binds (ps := ["row"]) fun _ _ _ _ _ _ us hl => match us, hl with | [_], _ => rfl
  have h_parting : ∀ base : Heap, Kn PySem.Challenge.rw_wovenway_k13_whole_small_rows_by_words.prog w K mg base 44 "parting" ["row"] A_parting := fun base => knOf F11 g11 b11 sc_parting (fun ds L Kk h => by first | (obtain ⟨rfl, _⟩ := h; rfl) | (obtain ⟨_, rfl, _⟩ := h; rfl) | (obtain ⟨_, _, rfl, _⟩ := h; rfl) | (obtain ⟨_, _, _, rfl, _⟩ := h; rfl) | (obtain ⟨_, _, _, _, rfl, _⟩ := h; rfl) | (obtain ⟨_, _, _, _, _, rfl, _⟩ := h; rfl) | (obtain ⟨_, _, _, _, _, _, rfl, _⟩ := h; rfl) | (obtain ⟨_, _, _, _, _, _, _, rfl, _⟩ := h; rfl) | (obtain ⟨_, _, _, _, _, _, _, _, rfl, _⟩ := h; rfl)) (fun cdv Ar outer s H E hr => d_parting T (h_need_row base) (h_all_partings base) cdv Ar outer s H E hr) (fun ds L Kk h => r_parting h)
  have F12 := fun_mk (st := s_how_many) l12 c12 k12
  have g12 := PySem.W.mg_of X G a12
  have b12 := F12.binds (ps := ["row"]) fun _ _ _ _ _ _ us hl => match us, hl with | [_], _ => rfl
  have h_how_many : ∀ base : Heap, Kn PySem.Challenge.rw_wovenway_k13_whole_small_rows_by_words.prog w K mg base 44 "how_many" ["row"] A_how_many := fun base => knOf F12 g12 b12 sc_how_many (fun ds L Kk h => by first | (obtain ⟨rfl, _⟩ := h; rfl) | (obtain ⟨_, rfl, _⟩ := h; rfl) | (obtain ⟨_, _, rfl, _⟩ := h; rfl) | (obtain ⟨_, _, _, rfl, _⟩ := h; rfl) | (obtain ⟨_, _, _, _, rfl, _⟩ := h; rfl) | (obtain ⟨_, _, _, _, _, rfl, _⟩ := h; rfl) | (obtain ⟨_, _, _, _, _, _, rfl, _⟩ := h; rfl) | (obtain ⟨_, _, _, _, _, _, _, rfl, _⟩ := h; rfl) | (obtain ⟨_, _, _, _, _, _, _, _, rfl, _⟩ := h; rfl)) (fun cdv Ar outer s H E hr => d_how_many T (h_need_row base) (h_all_partings base) cdv Ar outer s H E hr) (fun ds L Kk h => r_how_many h)
  have F13 := fun_mk (st := s_sides_of) l13 c13 k13
  have g13 := PySem.W.mg_of X G a13
  have b13 := F13.binds (ps := ["row"]) fun _ _ _ _ _ _ us hl => match us, hl with | [_], _ => rfl
  have h_sides_of : ∀ base : Heap, Kn PySem.Challenge.rw_wovenway_k13_whole_small_rows_by_words.prog w K mg base 44 "sides_of" ["row"] A_sides_of := fun base => knOf F13 g13 b13 sc_sides_of (fun ds L Kk h => by first | (obtain ⟨rfl, _⟩ := h; rfl) | (obtain ⟨_, rfl, _⟩ := h; rfl) | (obtain ⟨_, _, rfl, _⟩ := h; rfl) | (obtain ⟨_, _, _, rfl, _⟩ := h; rfl) | (obtain ⟨_, _, _, _, rfl, _⟩ := h; rfl) | (obtain ⟨_, _, _, _, _, rfl, _⟩ := h; rfl) | (obtain ⟨_, _, _, _, _, _, rfl, _⟩ := h; rfl) | (obtain ⟨_, _, _, _, _, _, _, rfl, _⟩ := h; rfl) | (obtain ⟨_, _, _, _, _, _, _, _, rfl, _⟩ := h; rfl)) (fun cdv Ar outer s H E hr => d_sides_of T (h_all_partings base) cdv Ar outer s H E hr) (fun ds L Kk h => r_sides_of h)
  have F14 := fun_mk (st := s_sides) l14 c14 k14
  have g14 := PySem.W.mg_of X G a14
  have b14 := F14.binds (ps := ["row"]) fun _ _ _ _ _ _ us hl => match us, hl with | [_], _ => rfl
  have h_sides : ∀ base : Heap, Kn PySem.Challenge.rw_wovenway_k13_whole_small_rows_by_words.prog w K mg base 45 "sides" ["row"] A_sides := fun base => knOf F14 g14 b14 sc_sides (fun ds L Kk h => by first | (obtain ⟨rfl, _⟩ := h; rfl) | (obtain ⟨_, rfl, _⟩ := h; rfl) | (obtain ⟨_, _, rfl, _⟩ := h; rfl) | (obtain ⟨_, _, _, rfl, _⟩ := h; rfl) | (obtain ⟨_, _, _, _, rfl, _⟩ := h; rfl) | (obtain ⟨_, _, _, _, _, rfl, _⟩ := h; rfl) | (obtain ⟨_, _, _, _, _, _, rfl, _⟩ := h; rfl) | (obtain ⟨_, _, _, _, _, _, _, rfl, _⟩ := h; rfl) | (obtain ⟨_, _, _, _, _, _, _, _, rfl, _⟩ := h; rfl)) (fun cdv Ar outer s H E hr => d_sides T (h_need_row base) (h_sides_of base) cdv Ar outer s H E hr) (fun ds L Kk h => r_sides h)
  have F15 := fun_mk (st := s_barring) l15 c15 k15
  have g15 := PySem.W.mg_of X G a15
  have b15 := F15.binds (ps := ["cards"]) fun _ _ _ _ _ _ us hl => match us, hl with | [_], _ => rfl
  have h_barring : ∀ base : Heap, Kn PySem.Challenge.rw_wovenway_k13_whole_small_rows_by_words.prog w K mg base 1 "barring" ["cards"] A_barring := fun base => knOf F15 g15 b15 sc_barring (fun ds L Kk h => by first | (obtain ⟨rfl, _⟩ := h; rfl) | (obtain ⟨_, rfl, _⟩ := h; rfl) | (obtain ⟨_, _, rfl, _⟩ := h; rfl) | (obtain ⟨_, _, _, rfl, _⟩ := h; rfl) | (obtain ⟨_, _, _, _, rfl, _⟩ := h; rfl) | (obtain ⟨_, _, _, _, _, rfl, _⟩ := h; rfl) | (obtain ⟨_, _, _, _, _, _, rfl, _⟩ := h; rfl) | (obtain ⟨_, _, _, _, _, _, _, rfl, _⟩ := h; rfl) | (obtain ⟨_, _, _, _, _, _, _, _, rfl, _⟩ := h; rfl)) (fun cdv Ar outer s H E hr => d_barring T  cdv Ar outer s H E hr) (fun ds L Kk h => r_barring h)
  have F16 := fun_mk (st := s_four_with) l16 c16 k16
  have g16 := PySem.W.mg_of X G a16
  have b16 := F16.binds (ps := ["row", "last"]) fun _ _ _ _ _ _ us hl => match us, hl with | [_, _], _ => rfl
  have h_four_with : ∀ base : Heap, Kn PySem.Challenge.rw_wovenway_k13_whole_small_rows_by_words.prog w K mg base 2 "four_with" ["row", "last"] A_four_with := fun base => knOf F16 g16 b16 sc_four_with (fun ds L Kk h => by first | (obtain ⟨rfl, _⟩ := h; rfl) | (obtain ⟨_, rfl, _⟩ := h; rfl) | (obtain ⟨_, _, rfl, _⟩ := h; rfl) | (obtain ⟨_, _, _, rfl, _⟩ := h; rfl) | (obtain ⟨_, _, _, _, rfl, _⟩ := h; rfl) | (obtain ⟨_, _, _, _, _, rfl, _⟩ := h; rfl) | (obtain ⟨_, _, _, _, _, _, rfl, _⟩ := h; rfl) | (obtain ⟨_, _, _, _, _, _, _, rfl, _⟩ := h; rfl) | (obtain ⟨_, _, _, _, _, _, _, _, rfl, _⟩ := h; rfl)) (fun cdv Ar outer s H E hr => d_four_with T (h_barring base) cdv Ar outer s H E hr) (fun ds L Kk h => r_four_with h)
  have F17 := fun_mk (st := s_four) l17 c17 k17
  have g17 := PySem.W.mg_of X G a17
  have b17 := F17.binds (ps := ["row"]) fun _ _ _ _ _ _ us hl => match us, hl with | [_], _ => rfl
  have h_four : ∀ base : Heap, Kn PySem.Challenge.rw_wovenway_k13_whole_small_rows_by_words.prog w K mg base 4 "four" ["row"] A_four := fun base => knOf F17 g17 b17 sc_four (fun ds L Kk h => by first | (obtain ⟨rfl, _⟩ := h; rfl) | (obtain ⟨_, rfl, _⟩ := h; rfl) | (obtain ⟨_, _, rfl, _⟩ := h; rfl) | (obtain ⟨_, _, _, rfl, _⟩ := h; rfl) | (obtain ⟨_, _, _, _, rfl, _⟩ := h; rfl) | (obtain ⟨_, _, _, _, _, rfl, _⟩ := h; rfl) | (obtain ⟨_, _, _, _, _, _, rfl, _⟩ := h; rfl) | (obtain ⟨_, _, _, _, _, _, _, rfl, _⟩ := h; rfl) | (obtain ⟨_, _, _, _, _, _, _, _, rfl, _⟩ := h; rfl)) (fun cdv Ar outer s H E hr => d_four T (h_need_row base) (h_four_with base) cdv Ar outer s H E hr) (fun ds L Kk h => r_four h)
  have F18 := fun_mk (st := s_bars) l18 c18 k18
  have g18 := PySem.W.mg_of X G a18
  have b18 := F18.binds (ps := ["row", "thing"]) fun _ _ _ _ _ _ us hl => match us, hl with | [_, _], _ => rfl
  have h_bars : ∀ base : Heap, Kn PySem.Challenge.rw_wovenway_k13_whole_small_rows_by_words.prog w K mg base 4 "bars" ["row", "thing"] A_bars := fun base => knOf F18 g18 b18 sc_bars (fun ds L Kk h => by first | (obtain ⟨rfl, _⟩ := h; rfl) | (obtain ⟨_, rfl, _⟩ := h; rfl) | (obtain ⟨_, _, rfl, _⟩ := h; rfl) | (obtain ⟨_, _, _, rfl, _⟩ := h; rfl) | (obtain ⟨_, _, _, _, rfl, _⟩ := h; rfl) | (obtain ⟨_, _, _, _, _, rfl, _⟩ := h; rfl) | (obtain ⟨_, _, _, _, _, _, rfl, _⟩ := h; rfl) | (obtain ⟨_, _, _, _, _, _, _, rfl, _⟩ := h; rfl) | (obtain ⟨_, _, _, _, _, _, _, _, rfl, _⟩ := h; rfl)) (fun cdv Ar outer s H E hr => d_bars T (h_need_row base) (h_is_from base) (h_is_rising base) (h_barring base) cdv Ar outer s H E hr) (fun ds L Kk h => r_bars h)
  have F19 := fun_mk (st := s_most_from) l19 c19 k19
  have g19 := PySem.W.mg_of X G a19
  have b19 := F19.binds (ps := ["row", "worths", "at", "last", "known"]) fun _ _ _ _ _ _ us hl => match us, hl with | [_, _, _, _, _], _ => rfl
  have h_most_from : ∀ base : Heap, Kn PySem.Challenge.rw_wovenway_k13_whole_small_rows_by_words.prog w K mg base 42 "most_from" ["row", "worths", "at", "last", "known"] A_most_from := fun base => knRec (kk := 1) (Af := A_mf) (Ap := A_mfp) F19 g19 b19 rfl (fun _ => rfl) (fun n k hk hrec => knOf F19 g19 b19 sc_most_from (fun ds L Kk h => by first | (obtain ⟨rfl, _⟩ := h; rfl) | (obtain ⟨_, rfl, _⟩ := h; rfl) | (obtain ⟨_, _, rfl, _⟩ := h; rfl) | (obtain ⟨_, _, _, rfl, _⟩ := h; rfl) | (obtain ⟨_, _, _, _, rfl, _⟩ := h; rfl) | (obtain ⟨_, _, _, _, _, rfl, _⟩ := h; rfl) | (obtain ⟨_, _, _, _, _, _, rfl, _⟩ := h; rfl) | (obtain ⟨_, _, _, _, _, _, _, rfl, _⟩ := h; rfl) | (obtain ⟨_, _, _, _, _, _, _, _, rfl, _⟩ := h; rfl)) (fun cdv Ar outer s H E hr => d_most_from T (h_next_last base) hrec hk cdv Ar outer s H E hr) (fun ds L Kk h => r_most_from n h)) 40
  have F20 := fun_mk (st := s_stays) l20 c20 k20
  have g20 := PySem.W.mg_of X G a20
  have b20 := F20.binds (ps := ["row", "worths", "at", "lasts", "known"]) fun _ _ _ _ _ _ us hl => match us, hl with | [_, _, _, _, _], _ => rfl
  have h_stays : ∀ base : Heap, Kn PySem.Challenge.rw_wovenway_k13_whole_small_rows_by_words.prog w K mg base 43 "stays" ["row", "worths", "at", "lasts", "known"] A_stays := fun base => knOf F20 g20 b20 sc_stays (fun ds L Kk h => by first | (obtain ⟨rfl, _⟩ := h; rfl) | (obtain ⟨_, rfl, _⟩ := h; rfl) | (obtain ⟨_, _, rfl, _⟩ := h; rfl) | (obtain ⟨_, _, _, rfl, _⟩ := h; rfl) | (obtain ⟨_, _, _, _, rfl, _⟩ := h; rfl) | (obtain ⟨_, _, _, _, _, rfl, _⟩ := h; rfl) | (obtain ⟨_, _, _, _, _, _, rfl, _⟩ := h; rfl) | (obtain ⟨_, _, _, _, _, _, _, rfl, _⟩ := h; rfl) | (obtain ⟨_, _, _, _, _, _, _, _, rfl, _⟩ := h; rfl)) (fun cdv Ar outer s H E hr => d_stays T (h_next_last base) (h_most_from base) cdv Ar outer s H E hr) (fun ds L Kk h => r_stays h)
  have F21 := fun_mk (st := s_leaving) l21 c21 k21
  have g21 := PySem.W.mg_of X G a21
  have b21 := F21.binds (ps := ["row", "worths"]) fun _ _ _ _ _ _ us hl => match us, hl with | [_, _], _ => rfl
  have h_leaving : ∀ base : Heap, Kn PySem.Challenge.rw_wovenway_k13_whole_small_rows_by_words.prog w K mg base 44 "leaving" ["row", "worths"] A_leaving := fun base => knOf F21 g21 b21 sc_leaving (fun ds L Kk h => by first | (obtain ⟨rfl, _⟩ := h; rfl) | (obtain ⟨_, rfl, _⟩ := h; rfl) | (obtain ⟨_, _, rfl, _⟩ := h; rfl) | (obtain ⟨_, _, _, rfl, _⟩ := h; rfl) | (obtain ⟨_, _, _, _, rfl, _⟩ := h; rfl) | (obtain ⟨_, _, _, _, _, rfl, _⟩ := h; rfl) | (obtain ⟨_, _, _, _, _, _, rfl, _⟩ := h; rfl) | (obtain ⟨_, _, _, _, _, _, _, rfl, _⟩ := h; rfl) | (obtain ⟨_, _, _, _, _, _, _, _, rfl, _⟩ := h; rfl)) (fun cdv Ar outer s H E hr => d_leaving T (h_begun base) (h_most_from base) (h_stays base) cdv Ar outer s H E hr) (fun ds L Kk h => r_leaving h)
  have F22 := fun_mk (st := s_fewest) l22 c22 k22
  have g22 := PySem.W.mg_of X G a22
  have b22 := F22.binds (ps := ["row"]) fun _ _ _ _ _ _ us hl => match us, hl with | [_], _ => rfl
  have h_fewest : ∀ base : Heap, Kn PySem.Challenge.rw_wovenway_k13_whole_small_rows_by_words.prog w K mg base 45 "fewest" ["row"] A_fewest := fun base => knOf F22 g22 b22 sc_fewest (fun ds L Kk h => by first | (obtain ⟨rfl, _⟩ := h; rfl) | (obtain ⟨_, rfl, _⟩ := h; rfl) | (obtain ⟨_, _, rfl, _⟩ := h; rfl) | (obtain ⟨_, _, _, rfl, _⟩ := h; rfl) | (obtain ⟨_, _, _, _, rfl, _⟩ := h; rfl) | (obtain ⟨_, _, _, _, _, rfl, _⟩ := h; rfl) | (obtain ⟨_, _, _, _, _, _, rfl, _⟩ := h; rfl) | (obtain ⟨_, _, _, _, _, _, _, rfl, _⟩ := h; rfl) | (obtain ⟨_, _, _, _, _, _, _, _, rfl, _⟩ := h; rfl)) (fun cdv Ar outer s H E hr => d_fewest T (h_need_row base) (h_leaving base) cdv Ar outer s H E hr) (fun ds L Kk h => r_fewest h)
  have F23 := fun_mk (st := s_need_worths) l23 c23 k23
  have g23 := PySem.W.mg_of X G a23
  have b23 := F23.binds (ps := ["row", "worths"]) fun _ _ _ _ _ _ us hl => match us, hl with | [_, _], _ => rfl
  have h_need_worths : ∀ base : Heap, Kn PySem.Challenge.rw_wovenway_k13_whole_small_rows_by_words.prog w K mg base 4 "need_worths" ["row", "worths"] A_need_worths := fun base => knOf F23 g23 b23 sc_need_worths (fun ds L Kk h => by first | (obtain ⟨rfl, _⟩ := h; rfl) | (obtain ⟨_, rfl, _⟩ := h; rfl) | (obtain ⟨_, _, rfl, _⟩ := h; rfl) | (obtain ⟨_, _, _, rfl, _⟩ := h; rfl) | (obtain ⟨_, _, _, _, rfl, _⟩ := h; rfl) | (obtain ⟨_, _, _, _, _, rfl, _⟩ := h; rfl) | (obtain ⟨_, _, _, _, _, _, rfl, _⟩ := h; rfl) | (obtain ⟨_, _, _, _, _, _, _, rfl, _⟩ := h; rfl) | (obtain ⟨_, _, _, _, _, _, _, _, rfl, _⟩ := h; rfl)) (fun cdv Ar outer s H E hr => d_need_worths T (h_need_row base) (h_is_from base) cdv Ar outer s H E hr) (fun ds L Kk h => r_need_worths h)
  have F24 := fun_mk (st := s_worth) l24 c24 k24
  have g24 := PySem.W.mg_of X G a24
  have b24 := F24.binds (ps := ["row", "worths"]) fun _ _ _ _ _ _ us hl => match us, hl with | [_, _], _ => rfl
  have h_worth : ∀ base : Heap, Kn PySem.Challenge.rw_wovenway_k13_whole_small_rows_by_words.prog w K mg base 43 "worth" ["row", "worths"] A_worth := fun base => knOf F24 g24 b24 sc_worth (fun ds L Kk h => by first | (obtain ⟨rfl, _⟩ := h; rfl) | (obtain ⟨_, rfl, _⟩ := h; rfl) | (obtain ⟨_, _, rfl, _⟩ := h; rfl) | (obtain ⟨_, _, _, rfl, _⟩ := h; rfl) | (obtain ⟨_, _, _, _, rfl, _⟩ := h; rfl) | (obtain ⟨_, _, _, _, _, rfl, _⟩ := h; rfl) | (obtain ⟨_, _, _, _, _, _, rfl, _⟩ := h; rfl) | (obtain ⟨_, _, _, _, _, _, _, rfl, _⟩ := h; rfl) | (obtain ⟨_, _, _, _, _, _, _, _, rfl, _⟩ := h; rfl)) (fun cdv Ar outer s H E hr => d_worth T (h_need_worths base) (h_begun base) (h_most_from base) cdv Ar outer s H E hr) (fun ds L Kk h => r_worth h)
  have F25 := fun_mk (st := s_seams) l25 c25 k25
  have g25 := PySem.W.mg_of X G a25
  have b25 := F25.binds (ps := ["ring"]) fun _ _ _ _ _ _ us hl => match us, hl with | [_], _ => rfl
  have h_seams : ∀ base : Heap, Kn PySem.Challenge.rw_wovenway_k13_whole_small_rows_by_words.prog w K mg base 44 "seams" ["ring"] A_seams := fun base => knOf F25 g25 b25 sc_seams (fun ds L Kk h => by first | (obtain ⟨rfl, _⟩ := h; rfl) | (obtain ⟨_, rfl, _⟩ := h; rfl) | (obtain ⟨_, _, rfl, _⟩ := h; rfl) | (obtain ⟨_, _, _, rfl, _⟩ := h; rfl) | (obtain ⟨_, _, _, _, rfl, _⟩ := h; rfl) | (obtain ⟨_, _, _, _, _, rfl, _⟩ := h; rfl) | (obtain ⟨_, _, _, _, _, _, rfl, _⟩ := h; rfl) | (obtain ⟨_, _, _, _, _, _, _, rfl, _⟩ := h; rfl) | (obtain ⟨_, _, _, _, _, _, _, _, rfl, _⟩ := h; rfl)) (fun cdv Ar outer s H E hr => d_seams T (h_need_row base) (h_is_woven base) cdv Ar outer s H E hr) (fun ds L Kk h => r_seams h)
  have F26 := fun_mk (st := s_is_hidden) l26 c26 k26
  have g26 := PySem.W.mg_of X G a26
  have b26 := F26.binds (ps := ["thing"]) fun _ _ _ _ _ _ us hl => match us, hl with | [_], _ => rfl
  have h_is_hidden : ∀ base : Heap, Kn PySem.Challenge.rw_wovenway_k13_whole_small_rows_by_words.prog w K mg base 2 "is_hidden" ["thing"] A_is_hidden := fun base => knOf F26 g26 b26 sc_is_hidden (fun ds L Kk h => by first | (obtain ⟨rfl, _⟩ := h; rfl) | (obtain ⟨_, rfl, _⟩ := h; rfl) | (obtain ⟨_, _, rfl, _⟩ := h; rfl) | (obtain ⟨_, _, _, rfl, _⟩ := h; rfl) | (obtain ⟨_, _, _, _, rfl, _⟩ := h; rfl) | (obtain ⟨_, _, _, _, _, rfl, _⟩ := h; rfl) | (obtain ⟨_, _, _, _, _, _, rfl, _⟩ := h; rfl) | (obtain ⟨_, _, _, _, _, _, _, rfl, _⟩ := h; rfl) | (obtain ⟨_, _, _, _, _, _, _, _, rfl, _⟩ := h; rfl)) (fun cdv Ar outer s H E hr => d_is_hidden T (h_is_from base) cdv Ar outer s H E hr) (fun ds L Kk h => r_is_hidden h)
  have F27 := fun_mk (st := s_filled) l27 c27 k27
  have g27 := PySem.W.mg_of X G a27
  have b27 := F27.binds (ps := ["hidden"]) fun _ _ _ _ _ _ us hl => match us, hl with | [_], _ => rfl
  have h_filled : ∀ base : Heap, Kn PySem.Challenge.rw_wovenway_k13_whole_small_rows_by_words.prog w K mg base 44 "filled" ["hidden"] A_filled := fun base => knOf F27 g27 b27 sc_filled (fun ds L Kk h => by first | (obtain ⟨rfl, _⟩ := h; rfl) | (obtain ⟨_, rfl, _⟩ := h; rfl) | (obtain ⟨_, _, rfl, _⟩ := h; rfl) | (obtain ⟨_, _, _, rfl, _⟩ := h; rfl) | (obtain ⟨_, _, _, _, rfl, _⟩ := h; rfl) | (obtain ⟨_, _, _, _, _, rfl, _⟩ := h; rfl) | (obtain ⟨_, _, _, _, _, _, rfl, _⟩ := h; rfl) | (obtain ⟨_, _, _, _, _, _, _, rfl, _⟩ := h; rfl) | (obtain ⟨_, _, _, _, _, _, _, _, rfl, _⟩ := h; rfl)) (fun cdv Ar outer s H E hr => d_filled T (h_is_hidden base) (h_is_woven base) cdv Ar outer s H E hr) (fun ds L Kk h => r_filled h)
  have F28 := fun_mk (st := s_Laid_init) l28 c28 k28
  have b28 := F28.binds (ps := ["self"]) fun _ _ _ _ _ _ us hl => match us, hl with | [_], _ => rfl
  have h_init : ∀ base : Heap, FnOk PySem.Challenge.rw_wovenway_k13_whole_small_rows_by_words.prog w K mg base CX0 1 f28 _ ["self"] (spOf (mo PySem.Challenge.rw_wovenway_k13_whole_small_rows_by_words.prog w K) (A_Laid_init CL)) := fun base => fnM F28 sc_Laid_init (fun ds L Kk h => by first | (obtain ⟨rfl, _⟩ := h; rfl) | (obtain ⟨_, rfl, _⟩ := h; rfl) | (obtain ⟨_, _, rfl, _⟩ := h; rfl) | (obtain ⟨_, _, _, rfl, _⟩ := h; rfl) | (obtain ⟨_, _, _, _, rfl, _⟩ := h; rfl) | (obtain ⟨_, _, _, _, _, rfl, _⟩ := h; rfl) | (obtain ⟨_, _, _, _, _, _, rfl, _⟩ := h; rfl) | (obtain ⟨_, _, _, _, _, _, _, rfl, _⟩ := h; rfl) | (obtain ⟨_, _, _, _, _, _, _, _, rfl, _⟩ := h; rfl)) (fun cdv Ar outer s H E hr => d_Laid_init T cl nr  cdv Ar outer s H E hr) (fun ds L Kk h => r_Laid_init h)
  have F29 := fun_mk (st := s_Laid_lay) l29 c29 k29
  have b29 := F29.binds (ps := ["self", "card"]) fun _ _ _ _ _ _ us hl => match us, hl with | [_, _], _ => rfl
  have h_Laid_lay : ∀ base : Heap, KnM PySem.Challenge.rw_wovenway_k13_whole_small_rows_by_words.prog w K mg base CL 3 "lay" ["self", "card"] (A_Laid_lay CL) := fun base => ⟨_, _, fnM F29 sc_Laid_lay (fun ds L Kk h => by first | (obtain ⟨rfl, _⟩ := h; rfl) | (obtain ⟨_, rfl, _⟩ := h; rfl) | (obtain ⟨_, _, rfl, _⟩ := h; rfl) | (obtain ⟨_, _, _, rfl, _⟩ := h; rfl) | (obtain ⟨_, _, _, _, rfl, _⟩ := h; rfl) | (obtain ⟨_, _, _, _, _, rfl, _⟩ := h; rfl) | (obtain ⟨_, _, _, _, _, _, rfl, _⟩ := h; rfl) | (obtain ⟨_, _, _, _, _, _, _, rfl, _⟩ := h; rfl) | (obtain ⟨_, _, _, _, _, _, _, _, rfl, _⟩ := h; rfl)) (fun cdv Ar outer s H E hr => d_Laid_lay T cl nr (h_is_from base) (h_four_with base) cdv Ar outer s H E hr) (fun ds L Kk h => r_Laid_lay h), ⟨a29, i29, k29⟩, b29⟩
  have F30 := fun_mk (st := s_Laid_can_be_laid) l30 c30 k30
  have b30 := F30.binds (ps := ["self"]) fun _ _ _ _ _ _ us hl => match us, hl with | [_], _ => rfl
  have h_Laid_can_be_laid : ∀ base : Heap, KnM PySem.Challenge.rw_wovenway_k13_whole_small_rows_by_words.prog w K mg base CL 44 "can_be_laid" ["self"] (A_Laid_can_be_laid CL) := fun base => ⟨_, _, fnM F30 sc_Laid_can_be_laid (fun ds L Kk h => by first | (obtain ⟨rfl, _⟩ := h; rfl) | (obtain ⟨_, rfl, _⟩ := h; rfl) | (obtain ⟨_, _, rfl, _⟩ := h; rfl) | (obtain ⟨_, _, _, rfl, _⟩ := h; rfl) | (obtain ⟨_, _, _, _, rfl, _⟩ := h; rfl) | (obtain ⟨_, _, _, _, _, rfl, _⟩ := h; rfl) | (obtain ⟨_, _, _, _, _, _, rfl, _⟩ := h; rfl) | (obtain ⟨_, _, _, _, _, _, _, rfl, _⟩ := h; rfl) | (obtain ⟨_, _, _, _, _, _, _, _, rfl, _⟩ := h; rfl)) (fun cdv Ar outer s H E hr => d_Laid_can_be_laid T cl nr (h_is_woven base) cdv Ar outer s H E hr) (fun ds L Kk h => r_Laid_can_be_laid h), ⟨a30, i30, k30⟩, b30⟩
  have F31 := fun_mk (st := s__law_deck) l31 c31 k31
  have g31 := PySem.W.mg_of X G a31
  have b31 := F31.binds (ps := ["cell", "turn"]) fun _ _ _ _ _ _ us hl => match us, hl with | [_, _], _ => rfl
  have h__law_deck : ∀ base : Heap, Kn PySem.Challenge.rw_wovenway_k13_whole_small_rows_by_words.prog w K mg base 1 "_law_deck" ["cell", "turn"] A__law_deck := fun base => knOf F31 g31 b31 sc__law_deck (fun ds L Kk h => by first | (obtain ⟨rfl, _⟩ := h; rfl) | (obtain ⟨_, rfl, _⟩ := h; rfl) | (obtain ⟨_, _, rfl, _⟩ := h; rfl) | (obtain ⟨_, _, _, rfl, _⟩ := h; rfl) | (obtain ⟨_, _, _, _, rfl, _⟩ := h; rfl) | (obtain ⟨_, _, _, _, _, rfl, _⟩ := h; rfl) | (obtain ⟨_, _, _, _, _, _, rfl, _⟩ := h; rfl) | (obtain ⟨_, _, _, _, _, _, _, rfl, _⟩ := h; rfl) | (obtain ⟨_, _, _, _, _, _, _, _, rfl, _⟩ := h; rfl)) (fun cdv Ar outer s H E hr => d__law_deck T  cdv Ar outer s H E hr) (fun ds L Kk h => r__law_deck h)
  have F32 := fun_mk (st := s__law_pick) l32 c32 k32
  have g32 := PySem.W.mg_of X G a32
  have b32 := F32.binds (ps := ["deck", "size"]) fun _ _ _ _ _ _ us hl => match us, hl with | [_, _], _ => rfl
  have h__law_pick : ∀ base : Heap, Kn PySem.Challenge.rw_wovenway_k13_whole_small_rows_by_words.prog w K mg base 1 "_law_pick" ["deck", "size"] A__law_pick := fun base => knOf F32 g32 b32 sc__law_pick (fun ds L Kk h => by first | (obtain ⟨rfl, _⟩ := h; rfl) | (obtain ⟨_, rfl, _⟩ := h; rfl) | (obtain ⟨_, _, rfl, _⟩ := h; rfl) | (obtain ⟨_, _, _, rfl, _⟩ := h; rfl) | (obtain ⟨_, _, _, _, rfl, _⟩ := h; rfl) | (obtain ⟨_, _, _, _, _, rfl, _⟩ := h; rfl) | (obtain ⟨_, _, _, _, _, _, rfl, _⟩ := h; rfl) | (obtain ⟨_, _, _, _, _, _, _, rfl, _⟩ := h; rfl) | (obtain ⟨_, _, _, _, _, _, _, _, rfl, _⟩ := h; rfl)) (fun cdv Ar outer s H E hr => d__law_pick T  cdv Ar outer s H E hr) (fun ds L Kk h => r__law_pick h)
  refine ⟨PySem.W.fnOf "law" "law" (defArgs s_law) (defBody s_law) (defScope s_law) .none kV33 dc33 pm33 an33 (.ref cc) ct33, [(cc, PT)], spOf (mo PySem.Challenge.rw_wovenway_k13_whole_small_rows_by_words.prog w K) (A_law PT), fun p hp => ?_, fun p hp => ?_, fun p hp => ?_, fun s v => .of_eq rfl, fun H a ns hl _ hH hS => sp_law hl (hH (cc, PT) (List.mem_singleton.mpr rfl)) hS, fun base KB GB TB => ?_⟩
  · rw [List.mem_singleton.mp hp]; exact hPT
  · rw [List.mem_singleton.mp hp]; exact nP
  · rw [List.mem_singleton.mp hp]; exact hCd
  exact fnOfC l33 c33 sc_law (fun ds L Kk h => by first | (obtain ⟨rfl, _⟩ := h; rfl) | (obtain ⟨_, rfl, _⟩ := h; rfl) | (obtain ⟨_, _, rfl, _⟩ := h; rfl) | (obtain ⟨_, _, _, rfl, _⟩ := h; rfl) | (obtain ⟨_, _, _, _, rfl, _⟩ := h; rfl) | (obtain ⟨_, _, _, _, _, rfl, _⟩ := h; rfl) | (obtain ⟨_, _, _, _, _, _, rfl, _⟩ := h; rfl) | (obtain ⟨_, _, _, _, _, _, _, rfl, _⟩ := h; rfl) | (obtain ⟨_, _, _, _, _, _, _, _, rfl, _⟩ := h; rfl)) (fun Ar outer s H E hr => d_law T (TB (cc, PT) (List.mem_singleton.mpr rfl)) F1 g1 b1 cl nr ⟨a29, i29, k29⟩ ((bad_Laid_lay (P := PySem.Challenge.rw_wovenway_k13_whole_small_rows_by_words.prog) (w := w) (base := base) T cl nr (h_is_from base) (h_four_with base) F29 BT).mono (by decide)) b29 (gives_tryB try_B F0 g0 b0 (by decide +kernel)) ⟨L_mk, a28, i28, L_kc⟩ (h_init base) b28 (PySem.W.mg_of X G L_g) (h__law_deck base) (h__law_pick base) (h_how_many base) (h_sides base) (h_seams base) (h_parting base) (h_four base) (h_fewest base) (h_bars base) (h_worth base) (h_filled base) (h_Laid_lay base) (h_Laid_can_be_laid base) Ar outer s H E hr) (fun ds L Kk h => r_law h)
end Wv

open PySem PySem.W PyProof.Rows
set_option maxHeartbeats 0 in
theorem PySem.Challenge.cw_wovenway_k13_whole_small_rows_by_words_holds : PySem.Challenge.rw_wovenway_k13_whole_small_rows_by_words.Holds := by
  w_on; o_law; k_head; (case hw => w_witness2)
  k_fill
  refine Wv.walk_tab (l := PySem.Challenge.rw_wovenway_k13_whole_small_rows_by_words) (n := 63) (k := 46) (x := "script") (CX := fun _ => L2.CX0) rfl (by decide) rfl ⟨rfl, by decide, by decide⟩ (fun w h Y => PySem.W.km_in_of Y) ?F (fun _ _ _ _ _ h => h)
  case F =>
    intro w mg fa h Y KX G hmg hT
    refine' Wv.all_mk KX G hmg hT ?hd1 ?L_g ?L_pg ?L_hd ?L_po ?L_sa ?L_mk ?L_kc ?L_nr ?a0 ?l0 ?c0 ?k0 ?a1 ?l1 ?c1 ?k1 ?a2 ?l2 ?c2 ?k2 ?a3 ?l3 ?c3 ?k3 ?a4 ?l4 ?c4 ?k4 ?a5 ?l5 ?c5 ?k5 ?a6 ?l6 ?c6 ?k6 ?a7 ?l7 ?c7 ?k7 ?a8 ?l8 ?c8 ?k8 ?a9 ?l9 ?c9 ?k9 ?a10 ?l10 ?c10 ?k10 ?a11 ?l11 ?c11 ?k11 ?a12 ?l12 ?c12 ?k12 ?a13 ?l13 ?c13 ?k13 ?a14 ?l14 ?c14 ?k14 ?a15 ?l15 ?c15 ?k15 ?a16 ?l16 ?c16 ?k16 ?a17 ?l17 ?c17 ?k17 ?a18 ?l18 ?c18 ?k18 ?a19 ?l19 ?c19 ?k19 ?a20 ?l20 ?c20 ?k20 ?a21 ?l21 ?c21 ?k21 ?a22 ?l22 ?c22 ?k22 ?a23 ?l23 ?c23 ?k23 ?a24 ?l24 ?c24 ?k24 ?a25 ?l25 ?c25 ?k25 ?a26 ?l26 ?c26 ?k26 ?a27 ?l27 ?c27 ?k27 ?a28 ?i28 ?l28 ?c28 ?k28 ?a29 ?i29 ?l29 ?c29 ?k29 ?a30 ?i30 ?l30 ?c30 ?k30 ?a31 ?l31 ?c31 ?k31 ?a32 ?l32 ?c32 ?k32 ?a33 ?l33 ?c33 ?k33 ?lc ?vP ?nP ?z0 ?z1 ?z2 ?z3 ?z4 ?z5 ?z6 ?z7 ?z8 ?z9 ?z10 ?z11 ?z12 ?z13 ?z14 ?y_z0 ?y_z1 ?y_z2 ?y0 ?y1 ?y2 ?y3 ?n_RowError ?i_RowError ?t_RowError ?b_RowError ?n_NoRow ?i_NoRow ?t_NoRow ?b_NoRow ?n_NoWorths ?i_NoWorths ?t_NoWorths ?b_NoWorths ?n_NoNumber ?i_NoNumber ?t_NoNumber ?b_NoNumber ?n_NoHidden ?i_NoHidden ?t_NoHidden ?b_NoHidden ?n_NoCard ?i_NoCard ?t_NoCard ?b_NoCard ?n_Taken ?i_Taken ?t_Taken ?b_Taken ?n_Full ?i_Full ?t_Full ?b_Full ?n_NoneLeft ?i_NoneLeft ?t_NoneLeft ?b_NoneLeft ?n_Barred ?i_Barred ?t_Barred ?b_Barred ?B_cls ?B_sa ?B_no ?B_i ?B_t ?B_l ?B_c ?xg_Barred ?xk_Barred ?xd_Barred ?xa_Barred ?xn_Barred ?xt_Barred ?xm_Barred ?xp_Barred ?xv_Barred ?s_Barred_RowError ?s_Barred_NoRow ?s_Barred_NoWorths ?s_Barred_NoNumber ?s_Barred_NoHidden ?s_Barred_NoCard ?s_Barred_Taken ?s_Barred_Full ?s_Barred_NoneLeft ?s_Barred_Barred
    (case hd1 => first | exact rfl | kernel_rfl)
    (case L_g => k_is); (case L_pg => k_is); (case L_hd => k_is); (case L_po => k_is); (case L_sa => k_is); (case L_mk => k_is); (case L_kc => k_is); (case L_nr => k_is); (case a0 => k_is); (case l0 => k_is); (case c0 => k_is); (case k0 => k_is); (case a1 => k_is); (case l1 => k_is); (case c1 => k_is); (case k1 => k_is); (case a2 => k_is); (case l2 => k_is); (case c2 => k_is); (case k2 => k_is); (case a3 => k_is); (case l3 => k_is); (case c3 => k_is); (case k3 => k_is); (case a4 => k_is); (case l4 => k_is); (case c4 => k_is); (case k4 => k_is); (case a5 => k_is); (case l5 => k_is); (case c5 => k_is); (case k5 => k_is); (case a6 => k_is); (case l6 => k_is); (case c6 => k_is); (case k6 => k_is); (case a7 => k_is); (case l7 => k_is); (case c7 => k_is); (case k7 => k_is); (case a8 => k_is); (case l8 => k_is); (case c8 => k_is); (case k8 => k_is); (case a9 => k_is); (case l9 => k_is); (case c9 => k_is); (case k9 => k_is); (case a10 => k_is); (case l10 => k_is); (case c10 => k_is); (case k10 => k_is); (case a11 => k_is); (case l11 => k_is); (case c11 => k_is); (case k11 => k_is); (case a12 => k_is); (case l12 => k_is); (case c12 => k_is); (case k12 => k_is); (case a13 => k_is); (case l13 => k_is); (case c13 => k_is); (case k13 => k_is); (case a14 => k_is); (case l14 => k_is); (case c14 => k_is); (case k14 => k_is); (case a15 => k_is); (case l15 => k_is); (case c15 => k_is); (case k15 => k_is); (case a16 => k_is); (case l16 => k_is); (case c16 => k_is); (case k16 => k_is); (case a17 => k_is); (case l17 => k_is); (case c17 => k_is); (case k17 => k_is); (case a18 => k_is); (case l18 => k_is); (case c18 => k_is); (case k18 => k_is); (case a19 => k_is); (case l19 => k_is); (case c19 => k_is); (case k19 => k_is); (case a20 => k_is); (case l20 => k_is); (case c20 => k_is); (case k20 => k_is); (case a21 => k_is); (case l21 => k_is); (case c21 => k_is); (case k21 => k_is); (case a22 => k_is); (case l22 => k_is); (case c22 => k_is); (case k22 => k_is); (case a23 => k_is); (case l23 => k_is); (case c23 => k_is); (case k23 => k_is); (case a24 => k_is); (case l24 => k_is); (case c24 => k_is); (case k24 => k_is); (case a25 => k_is); (case l25 => k_is); (case c25 => k_is); (case k25 => k_is); (case a26 => k_is); (case l26 => k_is); (case c26 => k_is); (case k26 => k_is); (case a27 => k_is); (case l27 => k_is); (case c27 => k_is); (case k27 => k_is); (case a28 => k_is); (case i28 => k_is); (case l28 => k_is); (case c28 => k_is); (case k28 => k_is); (case a29 => k_is); (case i29 => k_is); (case l29 => k_is); (case c29 => k_is); (case k29 => k_is); (case a30 => k_is); (case i30 => k_is); (case l30 => k_is); (case c30 => k_is); (case k30 => k_is); (case a31 => k_is); (case l31 => k_is); (case c31 => k_is); (case k31 => k_is); (case a32 => k_is); (case l32 => k_is); (case c32 => k_is); (case k32 => k_is); (case a33 => k_is); (case l33 => k_is); (case c33 => k_is); (case k33 => k_is); (case lc => k_is); (case vP => exact rfl); (case nP => first | exact rfl | kernel_rfl | decide +kernel); (case z0 => k_is); (case z1 => k_is); (case z2 => k_is); (case z3 => k_is); (case z4 => k_is); (case z5 => k_is); (case z6 => k_is); (case z7 => k_is); (case z8 => k_is); (case z9 => k_is); (case z10 => k_is); (case z11 => k_is); (case z12 => k_is); (case z13 => k_is); (case z14 => k_is); (case y_z0 => k_is); (case y_z1 => k_is); (case y_z2 => k_is); (case y0 => k_is); (case y1 => k_is); (case y2 => k_is); (case y3 => k_is); (case n_RowError => k_is); (case i_RowError => k_is); (case t_RowError => k_is); (case b_RowError => k_is); (case n_NoRow => k_is); (case i_NoRow => k_is); (case t_NoRow => k_is); (case b_NoRow => k_is); (case n_NoWorths => k_is); (case i_NoWorths => k_is); (case t_NoWorths => k_is); (case b_NoWorths => k_is); (case n_NoNumber => k_is); (case i_NoNumber => k_is); (case t_NoNumber => k_is); (case b_NoNumber => k_is); (case n_NoHidden => k_is); (case i_NoHidden => k_is); (case t_NoHidden => k_is); (case b_NoHidden => k_is); (case n_NoCard => k_is); (case i_NoCard => k_is); (case t_NoCard => k_is); (case b_NoCard => k_is); (case n_Taken => k_is); (case i_Taken => k_is); (case t_Taken => k_is); (case b_Taken => k_is); (case n_Full => k_is); (case i_Full => k_is); (case t_Full => k_is); (case b_Full => k_is); (case n_NoneLeft => k_is); (case i_NoneLeft => k_is); (case t_NoneLeft => k_is); (case b_NoneLeft => k_is); (case n_Barred => k_is); (case i_Barred => k_is); (case t_Barred => k_is); (case b_Barred => k_is); (case B_cls => k_is); (case B_sa => k_is); (case B_no => k_is); (case B_i => k_is); (case B_t => k_is); (case B_l => k_is); (case B_c => k_is); (case xg_Barred => k_is); (case xk_Barred => k_is); (case xd_Barred => k_is); (case xa_Barred => k_is); (case xn_Barred => k_is); (case xt_Barred => k_is); (case xm_Barred => k_is); (case xp_Barred => k_is); (case xv_Barred => k_is); (case s_Barred_RowError => first | rfl | k_is); (case s_Barred_NoRow => first | rfl | k_is); (case s_Barred_NoWorths => first | rfl | k_is); (case s_Barred_NoNumber => first | rfl | k_is); (case s_Barred_NoHidden => first | rfl | k_is); (case s_Barred_NoCard => first | rfl | k_is); (case s_Barred_Taken => first | rfl | k_is); (case s_Barred_Full => first | rfl | k_is); (case s_Barred_NoneLeft => first | rfl | k_is); (case s_Barred_Barred => first | rfl | k_is)

